import PyProof.Rows.All
import Wide.All
import OpenK.AllK
import Wide.FinOn
import PySem.Challenge.RW_nn0012_01
open PySem PySem.W PyProof.Rows PySem.Calls
set_option Elab.async false
set_option maxRecDepth 100000
set_option maxHeartbeats 4000000
namespace Mine
local macro_rules | `(tactic| k_head) => `(tactic| o_head Hook.none)
set_option maxHeartbeats 8000000 in
open_top hd for PySem.Challenge.rw_nn0012_01

noncomputable abbrev prg : Program := PySem.Challenge.rw_nn0012_01.row.prog
theorem ex1 {α : Type} {P : α → Prop} {G : Prop} (h : ∃ a, P a) (f : ∀ a, P a → G) : G := Exists.elim h fun a h => f a h
theorem ex2 {α β : Type} {P : α → β → Prop} {G : Prop} (h : ∃ a b, P a b) (f : ∀ a b, P a b → G) : G := Exists.elim h fun a h => ex1 h (f a)
theorem ex3 {α β γ : Type} {P : α → β → γ → Prop} {G : Prop} (h : ∃ a b c, P a b c) (f : ∀ a b c, P a b c → G) : G := Exists.elim h fun a h => ex2 h (f a)
theorem ex4 {α β γ δ : Type} {P : α → β → γ → δ → Prop} {G : Prop} (h : ∃ a b c d, P a b c d) (f : ∀ a b c d, P a b c d → G) : G := Exists.elim h fun a h => ex3 h (f a)
theorem ex5 {α β γ δ ε : Type} {P : α → β → γ → δ → ε → Prop} {G : Prop} (h : ∃ a b c d e, P a b c d e) (f : ∀ a b c d e, P a b c d e → G) : G := Exists.elim h fun a h => ex4 h (f a)
theorem mk3 {α β γ : Type} {P : α → β → γ → Prop} (a : α) (b : β) (c : γ) (h : P a b c) : ∃ a b c, P a b c := ⟨a, b, c, h⟩
theorem mk4 {α β γ δ : Type} {P : α → β → γ → δ → Prop} (a : α) (b : β) (c : γ) (d : δ) (h : P a b c d) : ∃ a b c d, P a b c d := ⟨a, b, c, d, h⟩
theorem mk5 {α β γ δ ε : Type} {P : α → β → γ → δ → ε → Prop} (a : α) (b : β) (c : γ) (d : δ) (e : ε) (h : P a b c d e) : ∃ a b c d e, P a b c d e := ⟨a, b, c, d, e, h⟩
theorem an2 {A0 A1 G : Prop} (h : A0 ∧ A1) (f : A0 → A1 → G) : G := f h.1 h.2
theorem an3 {A0 A1 A2 G : Prop} (h : A0 ∧ A1 ∧ A2) (f : A0 → A1 → A2 → G) : G := an2 h.2 (f h.1)
theorem an4 {A0 A1 A2 A3 G : Prop} (h : A0 ∧ A1 ∧ A2 ∧ A3) (f : A0 → A1 → A2 → A3 → G) : G := an3 h.2 (f h.1)
theorem an5 {A0 A1 A2 A3 A4 G : Prop} (h : A0 ∧ A1 ∧ A2 ∧ A3 ∧ A4) (f : A0 → A1 → A2 → A3 → A4 → G) : G := an4 h.2 (f h.1)
theorem an6 {A0 A1 A2 A3 A4 A5 G : Prop} (h : A0 ∧ A1 ∧ A2 ∧ A3 ∧ A4 ∧ A5) (f : A0 → A1 → A2 → A3 → A4 → A5 → G) : G := an5 h.2 (f h.1)
theorem an7 {A0 A1 A2 A3 A4 A5 A6 G : Prop} (h : A0 ∧ A1 ∧ A2 ∧ A3 ∧ A4 ∧ A5 ∧ A6) (f : A0 → A1 → A2 → A3 → A4 → A5 → A6 → G) : G := an6 h.2 (f h.1)
theorem an8 {A0 A1 A2 A3 A4 A5 A6 A7 G : Prop} (h : A0 ∧ A1 ∧ A2 ∧ A3 ∧ A4 ∧ A5 ∧ A6 ∧ A7) (f : A0 → A1 → A2 → A3 → A4 → A5 → A6 → A7 → G) : G := an7 h.2 (f h.1)
theorem an9 {A0 A1 A2 A3 A4 A5 A6 A7 A8 G : Prop} (h : A0 ∧ A1 ∧ A2 ∧ A3 ∧ A4 ∧ A5 ∧ A6 ∧ A7 ∧ A8) (f : A0 → A1 → A2 → A3 → A4 → A5 → A6 → A7 → A8 → G) : G := an8 h.2 (f h.1)
noncomputable abbrev AA (dp un : Nat) (gd : Option (List Code)) (fr : List Env) : Around := { handled := none, depth := dp, frames := some fr, guards := gd, units := un }
structure Here (mean : ExcName → Option Value) (mg mb : Str → Option Value) (h : Heap) : Prop where
  T : Top hd.view_39 (looseW hd.view_39 []) mean mg mb h
theorem Here.keeps {mean : ExcName → Option Value} {mg mb : Str → Option Value} {h h' : Heap} (H : Here mean mg mb h) (k : h.StaysIn h') : Here mean mg mb h' := ⟨H.T.keeps k⟩
noncomputable def nms : List Str := (["normal", "compare", "add", "sub", "shift_left", "bit", "row_of", "number_of", "joint_size", "s_and", "s_or", "s_xor", "s_not", "s_bit", "one_at", "set_bit", "clear_bit", "flip_bit", "limb_ones", "nat_ones", "count_ones", "distance", "scan_for", "scan_one", "scan_zero", "_law_limbs", "_law_take", "_law_box", "_law_signed", "_law_drawn", "_law_ones", "_law_scan", "_law_two_right", "_law_bits_right", "law"] : List String).map Str.ofString
theorem nms_eq : (recsOf hd.view_39).map (·.name) = nms := by decide +kernel
noncomputable def Stands (x : Str) : Prop := ∃ i : Nat, nms[i]? = some x
theorem loose_eq : looseW hd.view_39 [] = [] := by decide +kernel
theorem lits_eq : (litsOf hd.view_39).map (·.1) = [] := by decide +kernel
noncomputable def cls : List Str := ["GmpError", "OutOfRange"]
theorem clss_eq : (clssOf hd.view_39 []).map (·.name) = cls := by decide +kernel
noncomputable def Free (x : Str) : Prop := (startupNames.contains x || nms.contains x || cls.contains x) = false
theorem Here.stands {mean : ExcName → Option Value} {mg mb : Str → Option Value} {h : Heap} (H : Here mean mg mb h) {x : Str} (e : Stands x) : ∃ f o fd, mg x = some (.ref f) ∧ h.get? f = some o ∧ o.data = .func fd := by
  obtain ⟨i, e⟩ := e
  have hm : x ∈ (recsOf hd.view_39).map (·.name) := by rw [nms_eq]; exact List.mem_of_getElem? e
  obtain ⟨d, hf, hn⟩ := List.mem_map.mp hm
  obtain ⟨f, o, pm, code, doc, h1, h2, h3, _⟩ := H.T.fn d hf
  exact ⟨f, o, _, hn ▸ h1, h2, h3⟩
theorem Here.free {mean : ExcName → Option Value} {mg mb : Str → Option Value} {h : Heap} (H : Here mean mg mb h) {x : Str} (e : Free x) : mg x = none := by
  unfold Free at e
  obtain ⟨e0, e3⟩ := Bool.or_eq_false_iff.mp e
  obtain ⟨e1, e2⟩ := Bool.or_eq_false_iff.mp e0
  have no : ∀ {l : List Str}, l.contains x = false → x ∉ l := fun e m => by rw [List.contains_iff_mem.mpr m] at e; cases e
  refine H.T.free x (no e1) ?_ ?_ ?_ ?_
  · rw [loose_eq]; exact fun m => nomatch m
  · rw [nms_eq]; exact no e2
  · rw [lits_eq]; exact fun m => nomatch m
  · rw [loose_eq, clss_eq]; exact no e3

theorem st_normal : Stands "normal" := ⟨0, rfl⟩
theorem st_compare : Stands "compare" := ⟨1, rfl⟩
theorem st_add : Stands "add" := ⟨2, rfl⟩
theorem st_sub : Stands "sub" := ⟨3, rfl⟩
theorem st_shift_left : Stands "shift_left" := ⟨4, rfl⟩
theorem st_bit : Stands "bit" := ⟨5, rfl⟩
theorem st_row_of : Stands "row_of" := ⟨6, rfl⟩
theorem st_number_of : Stands "number_of" := ⟨7, rfl⟩
theorem st_joint_size : Stands "joint_size" := ⟨8, rfl⟩
theorem st_s_and : Stands "s_and" := ⟨9, rfl⟩
theorem st_s_or : Stands "s_or" := ⟨10, rfl⟩
theorem st_s_xor : Stands "s_xor" := ⟨11, rfl⟩
theorem st_s_not : Stands "s_not" := ⟨12, rfl⟩
theorem st_s_bit : Stands "s_bit" := ⟨13, rfl⟩
theorem st_one_at : Stands "one_at" := ⟨14, rfl⟩
theorem st_set_bit : Stands "set_bit" := ⟨15, rfl⟩
theorem st_clear_bit : Stands "clear_bit" := ⟨16, rfl⟩
theorem st_flip_bit : Stands "flip_bit" := ⟨17, rfl⟩
theorem st_limb_ones : Stands "limb_ones" := ⟨18, rfl⟩
theorem st_nat_ones : Stands "nat_ones" := ⟨19, rfl⟩
theorem st_count_ones : Stands "count_ones" := ⟨20, rfl⟩
theorem st_distance : Stands "distance" := ⟨21, rfl⟩
theorem st_scan_for : Stands "scan_for" := ⟨22, rfl⟩
theorem st_scan_one : Stands "scan_one" := ⟨23, rfl⟩
theorem st_scan_zero : Stands "scan_zero" := ⟨24, rfl⟩
theorem st_law_limbs : Stands "_law_limbs" := ⟨25, rfl⟩
theorem st_law_take : Stands "_law_take" := ⟨26, rfl⟩
theorem st_law_box : Stands "_law_box" := ⟨27, rfl⟩
theorem st_law_signed : Stands "_law_signed" := ⟨28, rfl⟩
theorem st_law_drawn : Stands "_law_drawn" := ⟨29, rfl⟩
theorem st_law_ones : Stands "_law_ones" := ⟨30, rfl⟩
theorem st_law_scan : Stands "_law_scan" := ⟨31, rfl⟩
theorem st_law_two_right : Stands "_law_two_right" := ⟨32, rfl⟩
theorem st_law_bits_right : Stands "_law_bits_right" := ⟨33, rfl⟩
theorem free_len : Free "len" := by unfold Free; decide +kernel
theorem free_range : Free "range" := by unfold Free; decide +kernel
theorem free_max : Free "max" := by unfold Free; decide +kernel
theorem free_abs : Free "abs" := by unfold Free; decide +kernel
theorem free_sum : Free "sum" := by unfold Free; decide +kernel
theorem free_repr : Free "repr" := by unfold Free; decide +kernel
theorem free_zip : Free "zip" := by unfold Free; decide +kernel
theorem free_int : Free "int" := by unfold Free; decide +kernel

theorem maxN (a b : Nat) : max (a : Int) b = ((max a b : Nat) : Int) := by
  rcases Nat.le_total a b with h | h
  · rw [Nat.max_eq_right h, Int.max_eq_right (Int.ofNat_le.mpr h)]
  · rw [Nat.max_eq_left h, Int.max_eq_left (Int.ofNat_le.mpr h)]
theorem b0 {B : Int} (h : 1 < B) : 0 < B := Int.lt_trans (by decide) h
theorem b1 {B : Int} (h : 1 < B) : 0 ≤ B := Int.le_of_lt (b0 h)
theorem b2 {B : Int} (h : 1 < B) : B ≠ 0 := Int.ne_of_gt (b0 h)
noncomputable def strip : List Int → List Int
  | [] => []
  | x :: r => match strip r with
    | [] => if x = 0 then [] else [x]
    | y :: t => x :: y :: t
theorem strip_cons (x : Int) (r : List Int) : strip (x :: r) = match strip r with | [] => if x = 0 then [] else [x] | y :: t => x :: y :: t := rfl
theorem strip_zero : ∀ {ns : List Int}, (∀ j, j < ns.length → ns.getD j 0 = 0) → strip ns = []
  | [], _ => rfl
  | x :: r, h => by
    have h0 : x = 0 := by simpa using h 0 (by simp)
    have hr : strip r = [] := strip_zero fun j hj => by
      have := h (j + 1) (by simpa using hj)
      simpa using this
    rw [strip_cons, hr]
    simp [h0]
theorem strip_take : ∀ {ns : List Int} {k : Nat}, k ≤ ns.length → (∀ j, k ≤ j → j < ns.length → ns.getD j 0 = 0) → (k = 0 ∨ ns.getD (k - 1) 0 ≠ 0) → ns.take k = strip ns
  | [], k, _, _, _ => by simp [strip]
  | x :: r, 0, _, h, _ => by
    rw [strip_zero fun j hj => h j (Nat.zero_le _) hj]; rfl
  | x :: r, k + 1, hk, h, hl => by
    have ih := strip_take (ns := r) (k := k) (by simpa using hk) (fun j h1 h2 => by
      have := h (j + 1) (by first | (with_reducible assumption) | (with_reducible exact Nat.le_trans (by assumption) (by decide)) | (with_reducible exact b0 (by assumption)) | (with_reducible exact b1 (by assumption)) | (with_reducible exact b2 (by assumption)) | (with_reducible exact Int.le_of_lt (by assumption)) | (with_reducible exact Nat.le_of_lt (by assumption)) | (with_reducible exact Int.natCast_nonneg _) | (with_reducible exact Int.le_of_lt (Int.pow_pos (by decide))) | (with_reducible exact Int.pow_pos (by decide)) | (with_reducible exact Nat.lt_of_lt_of_le (by decide) (by assumption)) | (with_reducible exact Int.ne_of_gt (by assumption)) | lia) (by simpa using h2)
      simpa using this) (by
      cases k with
      | zero => exact .inl rfl
      | succ k =>
        refine .inr ?_
        rcases hl with hl | hl
        · lia
        · simpa using hl)
    rw [List.take_succ_cons, ih, strip_cons]
    cases hs : strip r with
    | nil =>
      have hk0 : k = 0 ∨ r = [] := by
        rw [hs] at ih
        cases k with
        | zero => exact .inl rfl
        | succ k =>
          cases r with
          | nil => exact .inr rfl
          | cons y t => simp at ih
      have hx : x ≠ 0 := by
        rcases hk0 with rfl | rfl
        · rcases hl with hl | hl
          · lia
          · simpa using hl
        · have : k = 0 := by simpa using hk
          subst this
          rcases hl with hl | hl
          · lia
          · simpa using hl
      simp [hx]
    | cons y t => simp

theorem lenC {α : Type} {l : List α} {n : Nat} (h : l.length = n + 1) : ∃ a r, l = a :: r ∧ r.length = n := by cases l; cases h; exact ⟨_, _, rfl, Nat.succ.inj h⟩
theorem len2 {α : Type} {l : List α} (h : l.length = 2) : ∃ a b, l = [a, b] := by
  obtain ⟨a, r, rfl, h2⟩ := lenC h
  obtain ⟨b, rfl⟩ := List.length_eq_one_iff.mp h2
  exact ⟨a, b, rfl⟩
theorem len3 {α : Type} {l : List α} (h : l.length = 3) : ∃ a b c, l = [a, b, c] := by
  obtain ⟨a, r, rfl, h2⟩ := lenC h
  obtain ⟨b, c, rfl⟩ := len2 h2
  exact ⟨a, b, c, rfl⟩
theorem len4 {α : Type} {l : List α} (h : l.length = 4) : ∃ a b c d, l = [a, b, c, d] := by
  obtain ⟨a, r, rfl, h2⟩ := lenC h
  obtain ⟨b, c, d, rfl⟩ := len3 h2
  exact ⟨a, b, c, d, rfl⟩
noncomputable def popN (n : Nat) : Nat := if n = 0 then 0 else n % 2 + popN (n / 2)
termination_by n
decreasing_by exact Nat.div_lt_self (Nat.pos_of_ne_zero (by assumption)) (by decide)
theorem popN_zero : popN 0 = 0 := by unfold popN; rfl
theorem popN_step (n : Nat) : popN n = n % 2 + popN (n / 2) := by
  by_cases h : n = 0
  · subst h; rw [popN_zero]
  · rw [popN, if_neg h]
noncomputable def pop (x : Int) : Int := popN x.toNat
theorem pop_zero : pop 0 = 0 := by unfold pop; rw [show (0 : Int).toNat = 0 from rfl, popN_zero]; rfl
theorem pop_neg {x : Int} (h : x ≤ 0) : pop x = 0 := by unfold pop; rw [show x.toNat = 0 by lia, popN_zero]; rfl
theorem pop_step {x : Int} (h : 0 ≤ x) : pop x = x % 2 + pop (x / 2) := by
  obtain ⟨n, rfl⟩ := Int.eq_ofNat_of_zero_le h
  exact congrArg Int.ofNat (popN_step n)
theorem and_pred {x : Int} (h : 0 < x) : 0 ≤ Builtin.bitAnd x (x - 1) ∧ Builtin.bitAnd x (x - 1) < x ∧ pop x = 1 + pop (Builtin.bitAnd x (x - 1)) := by
  have key : ∀ n : Nat, ∀ x : Int, x.toNat < n → 0 < x → 0 ≤ Builtin.bitAnd x (x - 1) ∧ Builtin.bitAnd x (x - 1) < x ∧ pop x = 1 + pop (Builtin.bitAnd x (x - 1)) := by
    intro n
    induction n with
    | zero => intro x h; lia
    | succ n ih =>
      intro x hn hx
      have e := kbt_halves x (x - 1)
      by_cases ho : x % 2 = 1
      · have e1 : (x - 1) / 2 = x / 2 := by lia
        have e2 : ¬ (x - 1) % 2 = 1 := by lia
        rw [e1, bitAnd_self] at e
        rw [if_neg (by first | (with_reducible assumption) | (with_reducible exact Nat.le_trans (by assumption) (by decide)) | (with_reducible exact b0 (by assumption)) | (with_reducible exact b1 (by assumption)) | (with_reducible exact b2 (by assumption)) | (with_reducible exact Int.le_of_lt (by assumption)) | (with_reducible exact Nat.le_of_lt (by assumption)) | (with_reducible exact Int.natCast_nonneg _) | (with_reducible exact Int.le_of_lt (Int.pow_pos (by decide))) | (with_reducible exact Int.pow_pos (by decide)) | (with_reducible exact Nat.lt_of_lt_of_le (by decide) (by assumption)) | (with_reducible exact Int.ne_of_gt (by assumption)) | lia)] at e
        rw [e]
        refine ⟨by lia, by lia, ?_⟩
        rw [pop_step (x := x) (by first | (with_reducible assumption) | (with_reducible exact Nat.le_trans (by assumption) (by decide)) | (with_reducible exact b0 (by assumption)) | (with_reducible exact b1 (by assumption)) | (with_reducible exact b2 (by assumption)) | (with_reducible exact Int.le_of_lt (by assumption)) | (with_reducible exact Nat.le_of_lt (by assumption)) | (with_reducible exact Int.natCast_nonneg _) | (with_reducible exact Int.le_of_lt (Int.pow_pos (by decide))) | (with_reducible exact Int.pow_pos (by decide)) | (with_reducible exact Nat.lt_of_lt_of_le (by decide) (by assumption)) | (with_reducible exact Int.ne_of_gt (by assumption)) | lia), pop_step (x := 2 * (x / 2) + 0) (by first | (with_reducible assumption) | (with_reducible exact Nat.le_trans (by assumption) (by decide)) | (with_reducible exact b0 (by assumption)) | (with_reducible exact b1 (by assumption)) | (with_reducible exact b2 (by assumption)) | (with_reducible exact Int.le_of_lt (by assumption)) | (with_reducible exact Nat.le_of_lt (by assumption)) | (with_reducible exact Int.natCast_nonneg _) | (with_reducible exact Int.le_of_lt (Int.pow_pos (by decide))) | (with_reducible exact Int.pow_pos (by decide)) | (with_reducible exact Nat.lt_of_lt_of_le (by decide) (by assumption)) | (with_reducible exact Int.ne_of_gt (by assumption)) | lia), ho]
        have : (2 * (x / 2) + 0) / 2 = x / 2 := by lia
        rw [this]; lia
      · have h2 : (x - 1) / 2 = x / 2 - 1 := by lia
        rw [h2, if_neg (by first | (with_reducible assumption) | (with_reducible exact Nat.le_trans (by assumption) (by decide)) | (with_reducible exact b0 (by assumption)) | (with_reducible exact b1 (by assumption)) | (with_reducible exact b2 (by assumption)) | (with_reducible exact Int.le_of_lt (by assumption)) | (with_reducible exact Nat.le_of_lt (by assumption)) | (with_reducible exact Int.natCast_nonneg _) | (with_reducible exact Int.le_of_lt (Int.pow_pos (by decide))) | (with_reducible exact Int.pow_pos (by decide)) | (with_reducible exact Nat.lt_of_lt_of_le (by decide) (by assumption)) | (with_reducible exact Int.ne_of_gt (by assumption)) | lia)] at e
        obtain ⟨i1, i2, i3⟩ := ih (x / 2) (by first | (with_reducible assumption) | (with_reducible exact Nat.le_trans (by assumption) (by decide)) | (with_reducible exact b0 (by assumption)) | (with_reducible exact b1 (by assumption)) | (with_reducible exact b2 (by assumption)) | (with_reducible exact Int.le_of_lt (by assumption)) | (with_reducible exact Nat.le_of_lt (by assumption)) | (with_reducible exact Int.natCast_nonneg _) | (with_reducible exact Int.le_of_lt (Int.pow_pos (by decide))) | (with_reducible exact Int.pow_pos (by decide)) | (with_reducible exact Nat.lt_of_lt_of_le (by decide) (by assumption)) | (with_reducible exact Int.ne_of_gt (by assumption)) | lia) (by first | (with_reducible assumption) | (with_reducible exact Nat.le_trans (by assumption) (by decide)) | (with_reducible exact b0 (by assumption)) | (with_reducible exact b1 (by assumption)) | (with_reducible exact b2 (by assumption)) | (with_reducible exact Int.le_of_lt (by assumption)) | (with_reducible exact Nat.le_of_lt (by assumption)) | (with_reducible exact Int.natCast_nonneg _) | (with_reducible exact Int.le_of_lt (Int.pow_pos (by decide))) | (with_reducible exact Int.pow_pos (by decide)) | (with_reducible exact Nat.lt_of_lt_of_le (by decide) (by assumption)) | (with_reducible exact Int.ne_of_gt (by assumption)) | lia)
        rw [e]
        refine ⟨by lia, by lia, ?_⟩
        rw [pop_step (x := x) (by first | (with_reducible assumption) | (with_reducible exact Nat.le_trans (by assumption) (by decide)) | (with_reducible exact b0 (by assumption)) | (with_reducible exact b1 (by assumption)) | (with_reducible exact b2 (by assumption)) | (with_reducible exact Int.le_of_lt (by assumption)) | (with_reducible exact Nat.le_of_lt (by assumption)) | (with_reducible exact Int.natCast_nonneg _) | (with_reducible exact Int.le_of_lt (Int.pow_pos (by decide))) | (with_reducible exact Int.pow_pos (by decide)) | (with_reducible exact Nat.lt_of_lt_of_le (by decide) (by assumption)) | (with_reducible exact Int.ne_of_gt (by assumption)) | lia), i3, pop_step (x := 2 * Builtin.bitAnd (x / 2) (x / 2 - 1) + 0) (by first | (with_reducible assumption) | (with_reducible exact Nat.le_trans (by assumption) (by decide)) | (with_reducible exact b0 (by assumption)) | (with_reducible exact b1 (by assumption)) | (with_reducible exact b2 (by assumption)) | (with_reducible exact Int.le_of_lt (by assumption)) | (with_reducible exact Nat.le_of_lt (by assumption)) | (with_reducible exact Int.natCast_nonneg _) | (with_reducible exact Int.le_of_lt (Int.pow_pos (by decide))) | (with_reducible exact Int.pow_pos (by decide)) | (with_reducible exact Nat.lt_of_lt_of_le (by decide) (by assumption)) | (with_reducible exact Int.ne_of_gt (by assumption)) | lia)]
        have : (2 * Builtin.bitAnd (x / 2) (x / 2 - 1) + 0) / 2 = Builtin.bitAnd (x / 2) (x / 2 - 1) := by lia
        rw [this]; lia
  exact key _ x (Nat.lt_succ_self _) h

theorem div_lt_self {B X : Int} (hB : 1 < B) (hX : 0 < X) : X / B < X := by
  refine Int.ediv_lt_of_lt_mul (by first | (with_reducible assumption) | (with_reducible exact Nat.le_trans (by assumption) (by decide)) | (with_reducible exact b0 (by assumption)) | (with_reducible exact b1 (by assumption)) | (with_reducible exact b2 (by assumption)) | (with_reducible exact Int.le_of_lt (by assumption)) | (with_reducible exact Nat.le_of_lt (by assumption)) | (with_reducible exact Int.natCast_nonneg _) | (with_reducible exact Int.le_of_lt (Int.pow_pos (by decide))) | (with_reducible exact Int.pow_pos (by decide)) | (with_reducible exact Nat.lt_of_lt_of_le (by decide) (by assumption)) | (with_reducible exact Int.ne_of_gt (by assumption)) | lia) ?_
  have := Int.mul_lt_mul_of_pos_left hB hX
  lia
noncomputable def limbs (B : Int) (X : Int) : List Int := if _h : 1 < B ∧ 0 < X then X % B :: limbs B (X / B) else []
termination_by X.toNat
decreasing_by
  have h1 := div_lt_self _h.1 _h.2
  have h2 := Int.ediv_nonneg (a := X) (b := B) (by first | (with_reducible assumption) | (with_reducible exact Nat.le_trans (by assumption) (by decide)) | (with_reducible exact b0 (by assumption)) | (with_reducible exact b1 (by assumption)) | (with_reducible exact b2 (by assumption)) | (with_reducible exact Int.le_of_lt (by assumption)) | (with_reducible exact Nat.le_of_lt (by assumption)) | (with_reducible exact Int.natCast_nonneg _) | (with_reducible exact Int.le_of_lt (Int.pow_pos (by decide))) | (with_reducible exact Int.pow_pos (by decide)) | (with_reducible exact Nat.lt_of_lt_of_le (by decide) (by assumption)) | (with_reducible exact Int.ne_of_gt (by assumption)) | lia) (by first | (with_reducible assumption) | (with_reducible exact Nat.le_trans (by assumption) (by decide)) | (with_reducible exact b0 (by assumption)) | (with_reducible exact b1 (by assumption)) | (with_reducible exact b2 (by assumption)) | (with_reducible exact Int.le_of_lt (by assumption)) | (with_reducible exact Nat.le_of_lt (by assumption)) | (with_reducible exact Int.natCast_nonneg _) | (with_reducible exact Int.le_of_lt (Int.pow_pos (by decide))) | (with_reducible exact Int.pow_pos (by decide)) | (with_reducible exact Nat.lt_of_lt_of_le (by decide) (by assumption)) | (with_reducible exact Int.ne_of_gt (by assumption)) | lia)
  lia
theorem limbs_pos {B X : Int} (hB : 1 < B) (hX : 0 < X) : limbs B X = X % B :: limbs B (X / B) := by
  rw [limbs, dif_pos ⟨hB, hX⟩]
theorem limbs_nonpos {B X : Int} (hX : X ≤ 0) : limbs B X = [] := by
  rw [limbs, dif_neg (by first | (with_reducible assumption) | (with_reducible exact Nat.le_trans (by assumption) (by decide)) | (with_reducible exact b0 (by assumption)) | (with_reducible exact b1 (by assumption)) | (with_reducible exact b2 (by assumption)) | (with_reducible exact Int.le_of_lt (by assumption)) | (with_reducible exact Nat.le_of_lt (by assumption)) | (with_reducible exact Int.natCast_nonneg _) | (with_reducible exact Int.le_of_lt (Int.pow_pos (by decide))) | (with_reducible exact Int.pow_pos (by decide)) | (with_reducible exact Nat.lt_of_lt_of_le (by decide) (by assumption)) | (with_reducible exact Int.ne_of_gt (by assumption)) | lia)]
noncomputable def val (B : Int) : List Int → Int
  | [] => 0
  | x :: r => x + B * val B r
noncomputable def Lim (B : Int) (ns : List Int) : Prop := ∀ x ∈ ns, 0 ≤ x ∧ x < B
theorem Lim.nil {B : Int} : Lim B [] := fun _ h => nomatch h
theorem Lim.cons {B x : Int} {r : List Int} (h0 : 0 ≤ x) (h1 : x < B) (h : Lim B r) : Lim B (x :: r) := fun y hy => by
  rcases List.mem_cons.mp hy with rfl | hy
  · exact ⟨h0, h1⟩
  · exact h y hy
theorem Lim.head {B x : Int} {r : List Int} (h : Lim B (x :: r)) : 0 ≤ x ∧ x < B := h x (.head _)
theorem Lim.tail {B x : Int} {r : List Int} (h : Lim B (x :: r)) : Lim B r := fun y hy => h y (.tail _ hy)
theorem Lim.append {B : Int} {a b : List Int} (h : Lim B a) (h' : Lim B b) : Lim B (a ++ b) := fun x hx => (List.mem_append.mp hx).elim (h x) (h' x)
theorem Lim.one {B x : Int} (h0 : 0 ≤ x) (h1 : x < B) : Lim B [x] := Lim.cons h0 h1 .nil
theorem Lim.getD {B : Int} (hB : 1 < B) : ∀ {ns : List Int}, Lim B ns → ∀ i, 0 ≤ ns.getD i 0 ∧ ns.getD i 0 < B
  | [], _, i => by simp; lia
  | x :: r, h, 0 => by simpa using h.head
  | x :: r, h, i + 1 => by simpa using Lim.getD hB h.tail i
theorem emod_lim {B : Int} (hB : 1 < B) (X : Int) : 0 ≤ X % B ∧ X % B < B := ⟨Int.emod_nonneg _ (by first | (with_reducible assumption) | (with_reducible exact Nat.le_trans (by assumption) (by decide)) | (with_reducible exact b0 (by assumption)) | (with_reducible exact b1 (by assumption)) | (with_reducible exact b2 (by assumption)) | (with_reducible exact Int.le_of_lt (by assumption)) | (with_reducible exact Nat.le_of_lt (by assumption)) | (with_reducible exact Int.natCast_nonneg _) | (with_reducible exact Int.le_of_lt (Int.pow_pos (by decide))) | (with_reducible exact Int.pow_pos (by decide)) | (with_reducible exact Nat.lt_of_lt_of_le (by decide) (by assumption)) | (with_reducible exact Int.ne_of_gt (by assumption)) | lia), Int.emod_lt_of_pos _ (by first | (with_reducible assumption) | (with_reducible exact Nat.le_trans (by assumption) (by decide)) | (with_reducible exact b0 (by assumption)) | (with_reducible exact b1 (by assumption)) | (with_reducible exact b2 (by assumption)) | (with_reducible exact Int.le_of_lt (by assumption)) | (with_reducible exact Nat.le_of_lt (by assumption)) | (with_reducible exact Int.natCast_nonneg _) | (with_reducible exact Int.le_of_lt (Int.pow_pos (by decide))) | (with_reducible exact Int.pow_pos (by decide)) | (with_reducible exact Nat.lt_of_lt_of_le (by decide) (by assumption)) | (with_reducible exact Int.ne_of_gt (by assumption)) | lia)⟩
theorem lim_limbs {B : Int} (hB : 1 < B) : ∀ X, Lim B (limbs B X) := by
  have key : ∀ n : Nat, ∀ X : Int, X.toNat < n → Lim B (limbs B X) := by
    intro n
    induction n with
    | zero => intro X h; lia
    | succ n ih =>
      intro X h
      by_cases hX : 0 < X
      · rw [limbs_pos hB hX]
        have h1 := div_lt_self hB hX
        exact Lim.cons (emod_lim hB X).1 (emod_lim hB X).2 (ih _ (by first | (with_reducible assumption) | (with_reducible exact Nat.le_trans (by assumption) (by decide)) | (with_reducible exact b0 (by assumption)) | (with_reducible exact b1 (by assumption)) | (with_reducible exact b2 (by assumption)) | (with_reducible exact Int.le_of_lt (by assumption)) | (with_reducible exact Nat.le_of_lt (by assumption)) | (with_reducible exact Int.natCast_nonneg _) | (with_reducible exact Int.le_of_lt (Int.pow_pos (by decide))) | (with_reducible exact Int.pow_pos (by decide)) | (with_reducible exact Nat.lt_of_lt_of_le (by decide) (by assumption)) | (with_reducible exact Int.ne_of_gt (by assumption)) | lia))
      · rw [limbs_nonpos (by first | (with_reducible assumption) | (with_reducible exact Nat.le_trans (by assumption) (by decide)) | (with_reducible exact b0 (by assumption)) | (with_reducible exact b1 (by assumption)) | (with_reducible exact b2 (by assumption)) | (with_reducible exact Int.le_of_lt (by assumption)) | (with_reducible exact Nat.le_of_lt (by assumption)) | (with_reducible exact Int.natCast_nonneg _) | (with_reducible exact Int.le_of_lt (Int.pow_pos (by decide))) | (with_reducible exact Int.pow_pos (by decide)) | (with_reducible exact Nat.lt_of_lt_of_le (by decide) (by assumption)) | (with_reducible exact Int.ne_of_gt (by assumption)) | lia)]; exact .nil
  exact fun X => key _ X (Nat.lt_succ_self _)
theorem val_limbs {B : Int} (hB : 1 < B) : ∀ {X : Int}, 0 ≤ X → val B (limbs B X) = X := by
  have key : ∀ n : Nat, ∀ X : Int, X.toNat < n → 0 ≤ X → val B (limbs B X) = X := by
    intro n
    induction n with
    | zero => intro X h; lia
    | succ n ih =>
      intro X h h0
      by_cases hX : 0 < X
      · have h1 := div_lt_self hB hX
        have h2 := Int.ediv_nonneg (a := X) (b := B) (by first | (with_reducible assumption) | (with_reducible exact Nat.le_trans (by assumption) (by decide)) | (with_reducible exact b0 (by assumption)) | (with_reducible exact b1 (by assumption)) | (with_reducible exact b2 (by assumption)) | (with_reducible exact Int.le_of_lt (by assumption)) | (with_reducible exact Nat.le_of_lt (by assumption)) | (with_reducible exact Int.natCast_nonneg _) | (with_reducible exact Int.le_of_lt (Int.pow_pos (by decide))) | (with_reducible exact Int.pow_pos (by decide)) | (with_reducible exact Nat.lt_of_lt_of_le (by decide) (by assumption)) | (with_reducible exact Int.ne_of_gt (by assumption)) | omega) (by first | (with_reducible assumption) | (with_reducible exact Nat.le_trans (by assumption) (by decide)) | (with_reducible exact b0 (by assumption)) | (with_reducible exact b1 (by assumption)) | (with_reducible exact b2 (by assumption)) | (with_reducible exact Int.le_of_lt (by assumption)) | (with_reducible exact Nat.le_of_lt (by assumption)) | (with_reducible exact Int.natCast_nonneg _) | (with_reducible exact Int.le_of_lt (Int.pow_pos (by decide))) | (with_reducible exact Int.pow_pos (by decide)) | (with_reducible exact Nat.lt_of_lt_of_le (by decide) (by assumption)) | (with_reducible exact Int.ne_of_gt (by assumption)) | lia)
        rw [limbs_pos hB hX, val, ih _ (by first | (with_reducible assumption) | (with_reducible exact Nat.le_trans (by assumption) (by decide)) | (with_reducible exact b0 (by assumption)) | (with_reducible exact b1 (by assumption)) | (with_reducible exact b2 (by assumption)) | (with_reducible exact Int.le_of_lt (by assumption)) | (with_reducible exact Nat.le_of_lt (by assumption)) | (with_reducible exact Int.natCast_nonneg _) | (with_reducible exact Int.le_of_lt (Int.pow_pos (by decide))) | (with_reducible exact Int.pow_pos (by decide)) | (with_reducible exact Nat.lt_of_lt_of_le (by decide) (by assumption)) | (with_reducible exact Int.ne_of_gt (by assumption)) | lia) h2]
        exact Int.emod_add_mul_ediv X B
      · rw [limbs_nonpos (by first | (with_reducible assumption) | (with_reducible exact Nat.le_trans (by assumption) (by decide)) | (with_reducible exact b0 (by assumption)) | (with_reducible exact b1 (by assumption)) | (with_reducible exact b2 (by assumption)) | (with_reducible exact Int.le_of_lt (by assumption)) | (with_reducible exact Nat.le_of_lt (by assumption)) | (with_reducible exact Int.natCast_nonneg _) | (with_reducible exact Int.le_of_lt (Int.pow_pos (by decide))) | (with_reducible exact Int.pow_pos (by decide)) | (with_reducible exact Nat.lt_of_lt_of_le (by decide) (by assumption)) | (with_reducible exact Int.ne_of_gt (by assumption)) | lia), val]; lia
  exact fun {X} => key _ X (Nat.lt_succ_self _)
theorem val_nonneg {B : Int} (hB : 1 < B) : ∀ {ns : List Int}, Lim B ns → 0 ≤ val B ns
  | [], _ => by simp [val]
  | x :: r, h => by
    have h1 := val_nonneg hB h.tail
    have h2 := Int.mul_nonneg (a := B) (b := val B r) (by first | (with_reducible assumption) | (with_reducible exact Nat.le_trans (by assumption) (by decide)) | (with_reducible exact b0 (by assumption)) | (with_reducible exact b1 (by assumption)) | (with_reducible exact b2 (by assumption)) | (with_reducible exact Int.le_of_lt (by assumption)) | (with_reducible exact Nat.le_of_lt (by assumption)) | (with_reducible exact Int.natCast_nonneg _) | (with_reducible exact Int.le_of_lt (Int.pow_pos (by decide))) | (with_reducible exact Int.pow_pos (by decide)) | (with_reducible exact Nat.lt_of_lt_of_le (by decide) (by assumption)) | (with_reducible exact Int.ne_of_gt (by assumption)) | lia) h1
    have h3 := h.head.1
    rw [val]; lia
theorem pow_succ' (B : Int) (n : Nat) : B ^ (n + 1) = B * B ^ n := by rw [Int.pow_succ, Int.mul_comm]
theorem pow_pos' {B : Int} (hB : 1 < B) (n : Nat) : 0 < B ^ n := Int.pow_pos (by first | (with_reducible assumption) | (with_reducible exact Nat.le_trans (by assumption) (by decide)) | (with_reducible exact b0 (by assumption)) | (with_reducible exact b1 (by assumption)) | (with_reducible exact b2 (by assumption)) | (with_reducible exact Int.le_of_lt (by assumption)) | (with_reducible exact Nat.le_of_lt (by assumption)) | (with_reducible exact Int.natCast_nonneg _) | (with_reducible exact Int.le_of_lt (Int.pow_pos (by decide))) | (with_reducible exact Int.pow_pos (by decide)) | (with_reducible exact Nat.lt_of_lt_of_le (by decide) (by assumption)) | (with_reducible exact Int.ne_of_gt (by assumption)) | lia)
theorem val_lt {B : Int} (hB : 1 < B) : ∀ {ns : List Int}, Lim B ns → val B ns < B ^ ns.length
  | [], _ => by simp [val]
  | x :: r, h => by
    have h1 := val_lt hB h.tail
    have h2 := h.head.2
    have h3 : B * (val B r + 1) ≤ B * B ^ r.length := Int.mul_le_mul_of_nonneg_left (by first | (with_reducible assumption) | (with_reducible exact Nat.le_trans (by assumption) (by decide)) | (with_reducible exact b0 (by assumption)) | (with_reducible exact b1 (by assumption)) | (with_reducible exact b2 (by assumption)) | (with_reducible exact Int.le_of_lt (by assumption)) | (with_reducible exact Nat.le_of_lt (by assumption)) | (with_reducible exact Int.natCast_nonneg _) | (with_reducible exact Int.le_of_lt (Int.pow_pos (by decide))) | (with_reducible exact Int.pow_pos (by decide)) | (with_reducible exact Nat.lt_of_lt_of_le (by decide) (by assumption)) | (with_reducible exact Int.ne_of_gt (by assumption)) | lia) (by first | (with_reducible assumption) | (with_reducible exact Nat.le_trans (by assumption) (by decide)) | (with_reducible exact b0 (by assumption)) | (with_reducible exact b1 (by assumption)) | (with_reducible exact b2 (by assumption)) | (with_reducible exact Int.le_of_lt (by assumption)) | (with_reducible exact Nat.le_of_lt (by assumption)) | (with_reducible exact Int.natCast_nonneg _) | (with_reducible exact Int.le_of_lt (Int.pow_pos (by decide))) | (with_reducible exact Int.pow_pos (by decide)) | (with_reducible exact Nat.lt_of_lt_of_le (by decide) (by assumption)) | (with_reducible exact Int.ne_of_gt (by assumption)) | lia)
    rw [Int.mul_add] at h3
    rw [val, List.length_cons, pow_succ']
    lia
theorem div_of {B x v : Int} (h0 : 0 ≤ x) (h1 : x < B) : (x + B * v) / B = v ∧ (x + B * v) % B = x := by
  refine ⟨?_, ?_⟩
  · rw [Int.add_mul_ediv_left _ _ (by first | (with_reducible assumption) | (with_reducible exact Nat.le_trans (by assumption) (by decide)) | (with_reducible exact b0 (by assumption)) | (with_reducible exact b1 (by assumption)) | (with_reducible exact b2 (by assumption)) | (with_reducible exact Int.le_of_lt (by assumption)) | (with_reducible exact Nat.le_of_lt (by assumption)) | (with_reducible exact Int.natCast_nonneg _) | (with_reducible exact Int.le_of_lt (Int.pow_pos (by decide))) | (with_reducible exact Int.pow_pos (by decide)) | (with_reducible exact Nat.lt_of_lt_of_le (by decide) (by assumption)) | (with_reducible exact Int.ne_of_gt (by assumption)) | lia), Int.ediv_eq_zero_of_lt h0 h1]; lia
  · rw [Int.add_mul_emod_self_left, Int.emod_eq_of_lt h0 h1]
theorem limbs_val {B : Int} (hB : 1 < B) : ∀ {ns : List Int}, Lim B ns → limbs B (val B ns) = strip ns
  | [], _ => by rw [val, limbs_nonpos (Int.le_refl _)]; rfl
  | x :: r, h => by
    have ih := limbs_val hB h.tail
    have hv := val_nonneg hB h.tail
    have hx := h.head
    rw [val, strip_cons]
    by_cases hz : 0 < x + B * val B r
    · obtain ⟨e1, e2⟩ := div_of (v := val B r) hx.1 hx.2
      rw [limbs_pos hB hz, e1, e2, ih]
      cases hs : strip r with
      | nil =>
        rw [hs] at ih
        have hv0 : val B r = 0 := by
          by_cases h' : 0 < val B r
          · rw [limbs_pos hB h'] at ih; cases ih
          · lia
        have : x ≠ 0 := fun q => by rw [q, hv0] at hz; simp at hz
        simp [this]
      | cons y t => rfl
    · have hp := Int.mul_nonneg (a := B) (b := val B r) (by first | (with_reducible assumption) | (with_reducible exact Nat.le_trans (by assumption) (by decide)) | (with_reducible exact b0 (by assumption)) | (with_reducible exact b1 (by assumption)) | (with_reducible exact b2 (by assumption)) | (with_reducible exact Int.le_of_lt (by assumption)) | (with_reducible exact Nat.le_of_lt (by assumption)) | (with_reducible exact Int.natCast_nonneg _) | (with_reducible exact Int.le_of_lt (Int.pow_pos (by decide))) | (with_reducible exact Int.pow_pos (by decide)) | (with_reducible exact Nat.lt_of_lt_of_le (by decide) (by assumption)) | (with_reducible exact Int.ne_of_gt (by assumption)) | lia) hv
      have hx0 : x = 0 := by lia
      have hv0 : val B r = 0 := by
        have : B * val B r = 0 := by lia
        rcases Int.mul_eq_zero.mp this with h' | h'
        · lia
        · exact h'
      rw [limbs_nonpos (by first | (with_reducible assumption) | (with_reducible exact Nat.le_trans (by assumption) (by decide)) | (with_reducible exact b0 (by assumption)) | (with_reducible exact b1 (by assumption)) | (with_reducible exact b2 (by assumption)) | (with_reducible exact Int.le_of_lt (by assumption)) | (with_reducible exact Nat.le_of_lt (by assumption)) | (with_reducible exact Int.natCast_nonneg _) | (with_reducible exact Int.le_of_lt (Int.pow_pos (by decide))) | (with_reducible exact Int.pow_pos (by decide)) | (with_reducible exact Nat.lt_of_lt_of_le (by decide) (by assumption)) | (with_reducible exact Int.ne_of_gt (by assumption)) | lia)]
      rw [hv0, limbs_nonpos (Int.le_refl _)] at ih
      rw [← ih, hx0]; rfl
theorem strip_zeros : ∀ ns : List Int, ∃ m, ns = strip ns ++ List.replicate m 0
  | [] => ⟨0, rfl⟩
  | x :: r => by
    obtain ⟨m, e⟩ := strip_zeros r
    rw [strip_cons]
    cases hs : strip r with
    | nil =>
      rw [hs] at e
      by_cases hx : x = 0
      · refine ⟨m + 1, ?_⟩
        rw [e]; simp [hx, List.replicate_succ]
      · refine ⟨m, ?_⟩
        rw [e]; simp [hx]
    | cons y t =>
      refine ⟨m, ?_⟩
      rw [hs] at e
      rw [e]; rfl
theorem limbs_len_le {B : Int} (hB : 1 < B) : ∀ {n : Nat} {X : Int}, X < B ^ n → (limbs B X).length ≤ n
  | 0, X, h => by rw [limbs_nonpos (by simp at h; lia)]; exact Nat.le_refl _
  | n + 1, X, h => by
    by_cases hX : 0 < X
    · rw [limbs_pos hB hX, List.length_cons]
      have : X / B < B ^ n := Int.ediv_lt_of_lt_mul (by first | (with_reducible assumption) | (with_reducible exact Nat.le_trans (by assumption) (by decide)) | (with_reducible exact b0 (by assumption)) | (with_reducible exact b1 (by assumption)) | (with_reducible exact b2 (by assumption)) | (with_reducible exact Int.le_of_lt (by assumption)) | (with_reducible exact Nat.le_of_lt (by assumption)) | (with_reducible exact Int.natCast_nonneg _) | (with_reducible exact Int.le_of_lt (Int.pow_pos (by decide))) | (with_reducible exact Int.pow_pos (by decide)) | (with_reducible exact Nat.lt_of_lt_of_le (by decide) (by assumption)) | (with_reducible exact Int.ne_of_gt (by assumption)) | lia) (by rw [Int.pow_succ] at h; exact h)
      have := limbs_len_le hB this
      lia
    · rw [limbs_nonpos (by first | (with_reducible assumption) | (with_reducible exact Nat.le_trans (by assumption) (by decide)) | (with_reducible exact b0 (by assumption)) | (with_reducible exact b1 (by assumption)) | (with_reducible exact b2 (by assumption)) | (with_reducible exact Int.le_of_lt (by assumption)) | (with_reducible exact Nat.le_of_lt (by assumption)) | (with_reducible exact Int.natCast_nonneg _) | (with_reducible exact Int.le_of_lt (Int.pow_pos (by decide))) | (with_reducible exact Int.pow_pos (by decide)) | (with_reducible exact Nat.lt_of_lt_of_le (by decide) (by assumption)) | (with_reducible exact Int.ne_of_gt (by assumption)) | lia)]; simp
theorem limbs_len_gt {B : Int} (hB : 1 < B) : ∀ {n : Nat} {X : Int}, B ^ n ≤ X → n < (limbs B X).length
  | 0, X, h => by rw [limbs_pos hB (by simp at h; lia), List.length_cons]; lia
  | n + 1, X, h => by
    have hp := pow_pos' hB (n + 1)
    rw [limbs_pos hB (by first | (with_reducible assumption) | (with_reducible exact Nat.le_trans (by assumption) (by decide)) | (with_reducible exact b0 (by assumption)) | (with_reducible exact b1 (by assumption)) | (with_reducible exact b2 (by assumption)) | (with_reducible exact Int.le_of_lt (by assumption)) | (with_reducible exact Nat.le_of_lt (by assumption)) | (with_reducible exact Int.natCast_nonneg _) | (with_reducible exact Int.le_of_lt (Int.pow_pos (by decide))) | (with_reducible exact Int.pow_pos (by decide)) | (with_reducible exact Nat.lt_of_lt_of_le (by decide) (by assumption)) | (with_reducible exact Int.ne_of_gt (by assumption)) | lia), List.length_cons]
    have : B ^ n ≤ X / B := Int.le_ediv_of_mul_le (by first | (with_reducible assumption) | (with_reducible exact Nat.le_trans (by assumption) (by decide)) | (with_reducible exact b0 (by assumption)) | (with_reducible exact b1 (by assumption)) | (with_reducible exact b2 (by assumption)) | (with_reducible exact Int.le_of_lt (by assumption)) | (with_reducible exact Nat.le_of_lt (by assumption)) | (with_reducible exact Int.natCast_nonneg _) | (with_reducible exact Int.le_of_lt (Int.pow_pos (by decide))) | (with_reducible exact Int.pow_pos (by decide)) | (with_reducible exact Nat.lt_of_lt_of_le (by decide) (by assumption)) | (with_reducible exact Int.ne_of_gt (by assumption)) | lia) (by rw [Int.pow_succ] at h; exact h)
    have := limbs_len_gt hB this
    lia
theorem limbs_lt {B : Int} (hB : 1 < B) {X : Int} (h : 0 ≤ X) : X < B ^ (limbs B X).length := by
  have := val_lt hB (lim_limbs hB X)
  rwa [val_limbs hB h] at this
theorem limbs_of {B : Int} (hB : 1 < B) {ns : List Int} (h : Lim B ns) (hl : ns = [] ∨ B ^ (ns.length - 1) ≤ val B ns) : ns = limbs B (val B ns) := by
  rcases hl with rfl | hl
  · rw [val, limbs_nonpos (Int.le_refl _)]
  · have h1 := limbs_len_gt hB hl
    rw [limbs_val hB h] at h1 ⊢
    obtain ⟨m, e⟩ := strip_zeros ns
    have h2 : ns.length = (strip ns).length + m := by
      have := congrArg List.length e
      simpa using this
    have : m = 0 ∨ ns.length = 0 := by lia
    rcases this with rfl | h3
    · simpa using e
    · have : ns = [] := List.length_eq_zero_iff.mp h3
      subst this; rfl
theorem limbs_top {B : Int} (hB : 1 < B) {X : Int} (hX : 0 < X) : B ^ ((limbs B X).length - 1) ≤ X := by
  by_cases h : B ^ ((limbs B X).length - 1) ≤ X
  · exact h
  · have h1 := limbs_len_le hB (show X < B ^ ((limbs B X).length - 1) by lia)
    have h2 : 0 < (limbs B X).length := by rw [limbs_pos hB hX]; simp
    lia
theorem val_append {B : Int} : ∀ (a b : List Int), val B (a ++ b) = val B a + B ^ a.length * val B b
  | [], b => by simp [val]
  | x :: r, b => by
    rw [List.cons_append, val, val, val_append r b, List.length_cons, pow_succ', Int.mul_add, Int.mul_assoc]; lia
theorem val_snoc {B : Int} (a : List Int) (x : Int) : val B (a ++ [x]) = val B a + B ^ a.length * x := by
  rw [val_append]; simp [val]
theorem val_take {B : Int} (ns : List Int) (i : Nat) (h : i < ns.length) : val B (ns.take (i + 1)) = val B (ns.take i) + B ^ i * ns.getD i 0 := by
  have e : ns.take (i + 1) = ns.take i ++ [ns.getD i 0] := by
    rw [List.take_add_one]
    simp [List.getD_eq_getElem?_getD, h]
  rw [e, val_snoc, List.length_take, Nat.min_eq_left (by first | (with_reducible assumption) | (with_reducible exact Nat.le_trans (by assumption) (by decide)) | (with_reducible exact b0 (by assumption)) | (with_reducible exact b1 (by assumption)) | (with_reducible exact b2 (by assumption)) | (with_reducible exact Int.le_of_lt (by assumption)) | (with_reducible exact Nat.le_of_lt (by assumption)) | (with_reducible exact Int.natCast_nonneg _) | (with_reducible exact Int.le_of_lt (Int.pow_pos (by decide))) | (with_reducible exact Int.pow_pos (by decide)) | (with_reducible exact Nat.lt_of_lt_of_le (by decide) (by assumption)) | (with_reducible exact Int.ne_of_gt (by assumption)) | lia)]
theorem val_take_all {B : Int} (ns : List Int) (i : Nat) (h : ns.length ≤ i) : val B (ns.take (i + 1)) = val B (ns.take i) + B ^ i * ns.getD i 0 := by
  rw [List.take_of_length_le (by first | (with_reducible assumption) | (with_reducible exact Nat.le_trans (by assumption) (by decide)) | (with_reducible exact b0 (by assumption)) | (with_reducible exact b1 (by assumption)) | (with_reducible exact b2 (by assumption)) | (with_reducible exact Int.le_of_lt (by assumption)) | (with_reducible exact Nat.le_of_lt (by assumption)) | (with_reducible exact Int.natCast_nonneg _) | (with_reducible exact Int.le_of_lt (Int.pow_pos (by decide))) | (with_reducible exact Int.pow_pos (by decide)) | (with_reducible exact Nat.lt_of_lt_of_le (by decide) (by assumption)) | (with_reducible exact Int.ne_of_gt (by assumption)) | lia), List.take_of_length_le h]
  simp [List.getD_eq_getElem?_getD, h]
theorem val_take' {B : Int} (ns : List Int) (i : Nat) : val B (ns.take (i + 1)) = val B (ns.take i) + B ^ i * ns.getD i 0 := by
  by_cases h : i < ns.length
  · exact val_take ns i h
  · exact val_take_all ns i (by first | (with_reducible assumption) | (with_reducible exact Nat.le_trans (by assumption) (by decide)) | (with_reducible exact b0 (by assumption)) | (with_reducible exact b1 (by assumption)) | (with_reducible exact b2 (by assumption)) | (with_reducible exact Int.le_of_lt (by assumption)) | (with_reducible exact Nat.le_of_lt (by assumption)) | (with_reducible exact Int.natCast_nonneg _) | (with_reducible exact Int.le_of_lt (Int.pow_pos (by decide))) | (with_reducible exact Int.pow_pos (by decide)) | (with_reducible exact Nat.lt_of_lt_of_le (by decide) (by assumption)) | (with_reducible exact Int.ne_of_gt (by assumption)) | lia)
noncomputable def row (B : Int) : Nat → Int → List Int
  | 0, _ => []
  | n + 1, X => X % B :: row B n (X / B)
theorem row_length (B : Int) : ∀ (n : Nat) (X : Int), (row B n X).length = n
  | 0, _ => rfl
  | n + 1, X => by rw [row, List.length_cons, row_length]
theorem row_lim {B : Int} (hB : 1 < B) : ∀ (n : Nat) (X : Int), Lim B (row B n X)
  | 0, _ => .nil
  | n + 1, X => Lim.cons (emod_lim hB X).1 (emod_lim hB X).2 (row_lim hB n _)
theorem row_zero (B : Int) : ∀ n : Nat, row B n 0 = List.replicate n 0
  | 0 => rfl
  | n + 1 => by rw [row, Int.zero_emod, Int.zero_ediv, row_zero B n, List.replicate_succ]
theorem row_limbs {B : Int} (hB : 1 < B) : ∀ (n : Nat) (X : Int), 0 ≤ X → X < B ^ n → row B n X = limbs B X ++ List.replicate (n - (limbs B X).length) 0
  | 0, X, h0, h => by
    have : X = 0 := by simp at h; lia
    subst this
    rw [limbs_nonpos (Int.le_refl _)]; rfl
  | n + 1, X, h0, h => by
    by_cases hX : 0 < X
    · have h1 : X / B < B ^ n := Int.ediv_lt_of_lt_mul (by first | (with_reducible assumption) | (with_reducible exact Nat.le_trans (by assumption) (by decide)) | (with_reducible exact b0 (by assumption)) | (with_reducible exact b1 (by assumption)) | (with_reducible exact b2 (by assumption)) | (with_reducible exact Int.le_of_lt (by assumption)) | (with_reducible exact Nat.le_of_lt (by assumption)) | (with_reducible exact Int.natCast_nonneg _) | (with_reducible exact Int.le_of_lt (Int.pow_pos (by decide))) | (with_reducible exact Int.pow_pos (by decide)) | (with_reducible exact Nat.lt_of_lt_of_le (by decide) (by assumption)) | (with_reducible exact Int.ne_of_gt (by assumption)) | lia) (by rw [Int.pow_succ] at h; exact h)
      have h2 := Int.ediv_nonneg (a := X) (b := B) (by first | (with_reducible assumption) | (with_reducible exact Nat.le_trans (by assumption) (by decide)) | (with_reducible exact b0 (by assumption)) | (with_reducible exact b1 (by assumption)) | (with_reducible exact b2 (by assumption)) | (with_reducible exact Int.le_of_lt (by assumption)) | (with_reducible exact Nat.le_of_lt (by assumption)) | (with_reducible exact Int.natCast_nonneg _) | (with_reducible exact Int.le_of_lt (Int.pow_pos (by decide))) | (with_reducible exact Int.pow_pos (by decide)) | (with_reducible exact Nat.lt_of_lt_of_le (by decide) (by assumption)) | (with_reducible exact Int.ne_of_gt (by assumption)) | omega) (by first | (with_reducible assumption) | (with_reducible exact Nat.le_trans (by assumption) (by decide)) | (with_reducible exact b0 (by assumption)) | (with_reducible exact b1 (by assumption)) | (with_reducible exact b2 (by assumption)) | (with_reducible exact Int.le_of_lt (by assumption)) | (with_reducible exact Nat.le_of_lt (by assumption)) | (with_reducible exact Int.natCast_nonneg _) | (with_reducible exact Int.le_of_lt (Int.pow_pos (by decide))) | (with_reducible exact Int.pow_pos (by decide)) | (with_reducible exact Nat.lt_of_lt_of_le (by decide) (by assumption)) | (with_reducible exact Int.ne_of_gt (by assumption)) | lia)
      rw [row, row_limbs hB n _ h2 h1, limbs_pos hB hX, List.length_cons]
      simp
    · have : X = 0 := by lia
      subst this
      rw [row_zero, limbs_nonpos (Int.le_refl _)]; simp
theorem val_row {B : Int} (hB : 1 < B) : ∀ (n : Nat) (X : Int), val B (row B n X) = X % B ^ n
  | 0, X => by simp [row, val, Int.emod_one]
  | n + 1, X => by
    rw [row, val, val_row hB n, pow_succ']
    have h1 := Int.emod_add_mul_ediv X B
    have h2 := Int.emod_add_mul_ediv (X / B) (B ^ n)
    have hp := pow_pos' hB n
    have hX : X = (X % B + B * (X / B % B ^ n)) + (B * B ^ n) * (X / B / B ^ n) := by
      rw [Int.mul_assoc]
      have : B * (X / B % B ^ n) + B * (B ^ n * (X / B / B ^ n)) = B * (X / B) := by rw [← Int.mul_add, h2]
      lia
    have h3 := emod_lim hB X
    have h4 := Int.emod_nonneg (X / B) (b := B ^ n) (by first | (with_reducible assumption) | (with_reducible exact Nat.le_trans (by assumption) (by decide)) | (with_reducible exact b0 (by assumption)) | (with_reducible exact b1 (by assumption)) | (with_reducible exact b2 (by assumption)) | (with_reducible exact Int.le_of_lt (by assumption)) | (with_reducible exact Nat.le_of_lt (by assumption)) | (with_reducible exact Int.natCast_nonneg _) | (with_reducible exact Int.le_of_lt (Int.pow_pos (by decide))) | (with_reducible exact Int.pow_pos (by decide)) | (with_reducible exact Nat.lt_of_lt_of_le (by decide) (by assumption)) | (with_reducible exact Int.ne_of_gt (by assumption)) | lia)
    have h5 := Int.emod_lt_of_pos (X / B) hp
    have h6 : 0 ≤ B * (X / B % B ^ n) := Int.mul_nonneg (by first | (with_reducible assumption) | (with_reducible exact Nat.le_trans (by assumption) (by decide)) | (with_reducible exact b0 (by assumption)) | (with_reducible exact b1 (by assumption)) | (with_reducible exact b2 (by assumption)) | (with_reducible exact Int.le_of_lt (by assumption)) | (with_reducible exact Nat.le_of_lt (by assumption)) | (with_reducible exact Int.natCast_nonneg _) | (with_reducible exact Int.le_of_lt (Int.pow_pos (by decide))) | (with_reducible exact Int.pow_pos (by decide)) | (with_reducible exact Nat.lt_of_lt_of_le (by decide) (by assumption)) | (with_reducible exact Int.ne_of_gt (by assumption)) | lia) h4
    have h7 : B * (X / B % B ^ n + 1) ≤ B * B ^ n := Int.mul_le_mul_of_nonneg_left (by first | (with_reducible assumption) | (with_reducible exact Nat.le_trans (by assumption) (by decide)) | (with_reducible exact b0 (by assumption)) | (with_reducible exact b1 (by assumption)) | (with_reducible exact b2 (by assumption)) | (with_reducible exact Int.le_of_lt (by assumption)) | (with_reducible exact Nat.le_of_lt (by assumption)) | (with_reducible exact Int.natCast_nonneg _) | (with_reducible exact Int.le_of_lt (Int.pow_pos (by decide))) | (with_reducible exact Int.pow_pos (by decide)) | (with_reducible exact Nat.lt_of_lt_of_le (by decide) (by assumption)) | (with_reducible exact Int.ne_of_gt (by assumption)) | lia) (by first | (with_reducible assumption) | (with_reducible exact Nat.le_trans (by assumption) (by decide)) | (with_reducible exact b0 (by assumption)) | (with_reducible exact b1 (by assumption)) | (with_reducible exact b2 (by assumption)) | (with_reducible exact Int.le_of_lt (by assumption)) | (with_reducible exact Nat.le_of_lt (by assumption)) | (with_reducible exact Int.natCast_nonneg _) | (with_reducible exact Int.le_of_lt (Int.pow_pos (by decide))) | (with_reducible exact Int.pow_pos (by decide)) | (with_reducible exact Nat.lt_of_lt_of_le (by decide) (by assumption)) | (with_reducible exact Int.ne_of_gt (by assumption)) | lia)
    rw [Int.mul_add] at h7
    generalize hm : X % B + B * (X / B % B ^ n) = m at hX ⊢
    generalize X / B / B ^ n = q at hX
    rw [hX, Int.add_mul_emod_self_left, Int.emod_eq_of_lt (by first | (with_reducible assumption) | (with_reducible exact Nat.le_trans (by assumption) (by decide)) | (with_reducible exact b0 (by assumption)) | (with_reducible exact b1 (by assumption)) | (with_reducible exact b2 (by assumption)) | (with_reducible exact Int.le_of_lt (by assumption)) | (with_reducible exact Nat.le_of_lt (by assumption)) | (with_reducible exact Int.natCast_nonneg _) | (with_reducible exact Int.le_of_lt (Int.pow_pos (by decide))) | (with_reducible exact Int.pow_pos (by decide)) | (with_reducible exact Nat.lt_of_lt_of_le (by decide) (by assumption)) | (with_reducible exact Int.ne_of_gt (by assumption)) | lia) (by first | (with_reducible assumption) | (with_reducible exact Nat.le_trans (by assumption) (by decide)) | (with_reducible exact b0 (by assumption)) | (with_reducible exact b1 (by assumption)) | (with_reducible exact b2 (by assumption)) | (with_reducible exact Int.le_of_lt (by assumption)) | (with_reducible exact Nat.le_of_lt (by assumption)) | (with_reducible exact Int.natCast_nonneg _) | (with_reducible exact Int.le_of_lt (Int.pow_pos (by decide))) | (with_reducible exact Int.pow_pos (by decide)) | (with_reducible exact Nat.lt_of_lt_of_le (by decide) (by assumption)) | (with_reducible exact Int.ne_of_gt (by assumption)) | lia)]
theorem strip_row {B : Int} (hB : 1 < B) (n : Nat) {X : Int} (h0 : 0 ≤ X) (h : X < B ^ n) : strip (row B n X) = limbs B X := by
  rw [← limbs_val hB (row_lim hB n X), val_row hB, Int.emod_eq_of_lt h0 h]
theorem row_not {B : Int} (hB : 1 < B) : ∀ (n : Nat) (X : Int), row B n (-1 - X) = (row B n X).map (fun x => B - 1 - x)
  | 0, _ => rfl
  | n + 1, X => by
    have h3 := emod_lim hB X
    have h1 := Int.emod_add_mul_ediv X B
    have e : -1 - X = (B - 1 - X % B) + B * (-1 - X / B) := by rw [Int.mul_sub]; lia
    obtain ⟨e1, e2⟩ := div_of (B := B) (x := B - 1 - X % B) (v := -1 - X / B) (by first | (with_reducible assumption) | (with_reducible exact Nat.le_trans (by assumption) (by decide)) | (with_reducible exact b0 (by assumption)) | (with_reducible exact b1 (by assumption)) | (with_reducible exact b2 (by assumption)) | (with_reducible exact Int.le_of_lt (by assumption)) | (with_reducible exact Nat.le_of_lt (by assumption)) | (with_reducible exact Int.natCast_nonneg _) | (with_reducible exact Int.le_of_lt (Int.pow_pos (by decide))) | (with_reducible exact Int.pow_pos (by decide)) | (with_reducible exact Nat.lt_of_lt_of_le (by decide) (by assumption)) | (with_reducible exact Int.ne_of_gt (by assumption)) | lia) (by first | (with_reducible assumption) | (with_reducible exact Nat.le_trans (by assumption) (by decide)) | (with_reducible exact b0 (by assumption)) | (with_reducible exact b1 (by assumption)) | (with_reducible exact b2 (by assumption)) | (with_reducible exact Int.le_of_lt (by assumption)) | (with_reducible exact Nat.le_of_lt (by assumption)) | (with_reducible exact Int.natCast_nonneg _) | (with_reducible exact Int.le_of_lt (Int.pow_pos (by decide))) | (with_reducible exact Int.pow_pos (by decide)) | (with_reducible exact Nat.lt_of_lt_of_le (by decide) (by assumption)) | (with_reducible exact Int.ne_of_gt (by assumption)) | lia)
    rw [← e] at e1 e2
    rw [row, row, List.map_cons, e1, e2, row_not hB n]
theorem row_getD {B : Int} (hB : 1 < B) : ∀ (n : Nat) (X : Int) (i : Nat), i < n → (row B n X).getD i 0 = X / B ^ i % B
  | 0, _, i, h => by lia
  | n + 1, X, 0, _ => by simp [row]
  | n + 1, X, i + 1, h => by
    have := row_getD hB n (X / B) i (by first | (with_reducible assumption) | (with_reducible exact Nat.le_trans (by assumption) (by decide)) | (with_reducible exact b0 (by assumption)) | (with_reducible exact b1 (by assumption)) | (with_reducible exact b2 (by assumption)) | (with_reducible exact Int.le_of_lt (by assumption)) | (with_reducible exact Nat.le_of_lt (by assumption)) | (with_reducible exact Int.natCast_nonneg _) | (with_reducible exact Int.le_of_lt (Int.pow_pos (by decide))) | (with_reducible exact Int.pow_pos (by decide)) | (with_reducible exact Nat.lt_of_lt_of_le (by decide) (by assumption)) | (with_reducible exact Int.ne_of_gt (by assumption)) | lia)
    rw [row]
    rw [List.getD_cons_succ, this, pow_succ', Int.ediv_ediv_of_nonneg (by first | (with_reducible assumption) | (with_reducible exact Nat.le_trans (by assumption) (by decide)) | (with_reducible exact b0 (by assumption)) | (with_reducible exact b1 (by assumption)) | (with_reducible exact b2 (by assumption)) | (with_reducible exact Int.le_of_lt (by assumption)) | (with_reducible exact Nat.le_of_lt (by assumption)) | (with_reducible exact Int.natCast_nonneg _) | (with_reducible exact Int.le_of_lt (Int.pow_pos (by decide))) | (with_reducible exact Int.pow_pos (by decide)) | (with_reducible exact Nat.lt_of_lt_of_le (by decide) (by assumption)) | (with_reducible exact Int.ne_of_gt (by assumption)) | lia)]
theorem limbs_getD {B : Int} (hB : 1 < B) {X : Int} (h0 : 0 ≤ X) (i : Nat) (hi : i < (limbs B X).length) : (limbs B X).getD i 0 = X / B ^ i % B := by
  have h1 := limbs_lt hB h0
  have h2 := row_limbs hB (limbs B X).length X h0 h1
  simp at h2
  rw [← row_getD hB _ X i hi, h2]

noncomputable def addS (B : Int) (a b : List Int) : Nat → Int × List Int
  | 0 => (0, [])
  | i + 1 => (((addS B a b i).1 + (a.getD i 0 + b.getD i 0)) / B, (addS B a b i).2 ++ [((addS B a b i).1 + (a.getD i 0 + b.getD i 0)) % B])
theorem addS_inv {B : Int} (hB : 1 < B) {a b : List Int} (ha : Lim B a) (hb : Lim B b) : ∀ i, (addS B a b i).2.length = i ∧ Lim B (addS B a b i).2 ∧ 0 ≤ (addS B a b i).1 ∧ (addS B a b i).1 ≤ 1 ∧ val B (addS B a b i).2 + B ^ i * (addS B a b i).1 = val B (a.take i) + val B (b.take i)
  | 0 => ⟨rfl, .nil, Int.le_refl _, by show (0 : Int) ≤ 1; decide, by simp [addS, val]⟩
  | i + 1 => by
    obtain ⟨h1, h2, h3, h4, h5⟩ := addS_inv hB ha hb i
    have ga := ha.getD hB i
    have gb := hb.getD hB i
    have va := val_take' (B := B) a i
    have vb := val_take' (B := B) b i
    rw [addS]
    generalize (addS B a b i).1 = cr at *
    generalize (addS B a b i).2 = fd at *
    dsimp only
    generalize a.getD i 0 = x at *
    generalize b.getD i 0 = y at *
    have e := Int.emod_add_mul_ediv (cr + (x + y)) B
    have hl := emod_lim hB (cr + (x + y))
    have hq0 : 0 ≤ (cr + (x + y)) / B := Int.ediv_nonneg (by first | (with_reducible assumption) | (with_reducible exact Nat.le_trans (by assumption) (by decide)) | (with_reducible exact b0 (by assumption)) | (with_reducible exact b1 (by assumption)) | (with_reducible exact b2 (by assumption)) | (with_reducible exact Int.le_of_lt (by assumption)) | (with_reducible exact Nat.le_of_lt (by assumption)) | (with_reducible exact Int.natCast_nonneg _) | (with_reducible exact Int.le_of_lt (Int.pow_pos (by decide))) | (with_reducible exact Int.pow_pos (by decide)) | (with_reducible exact Nat.lt_of_lt_of_le (by decide) (by assumption)) | (with_reducible exact Int.ne_of_gt (by assumption)) | lia) (by first | (with_reducible assumption) | (with_reducible exact Nat.le_trans (by assumption) (by decide)) | (with_reducible exact b0 (by assumption)) | (with_reducible exact b1 (by assumption)) | (with_reducible exact b2 (by assumption)) | (with_reducible exact Int.le_of_lt (by assumption)) | (with_reducible exact Nat.le_of_lt (by assumption)) | (with_reducible exact Int.natCast_nonneg _) | (with_reducible exact Int.le_of_lt (Int.pow_pos (by decide))) | (with_reducible exact Int.pow_pos (by decide)) | (with_reducible exact Nat.lt_of_lt_of_le (by decide) (by assumption)) | (with_reducible exact Int.ne_of_gt (by assumption)) | lia)
    have hq1 : (cr + (x + y)) / B < 2 := Int.ediv_lt_of_lt_mul (by first | (with_reducible assumption) | (with_reducible exact Nat.le_trans (by assumption) (by decide)) | (with_reducible exact b0 (by assumption)) | (with_reducible exact b1 (by assumption)) | (with_reducible exact b2 (by assumption)) | (with_reducible exact Int.le_of_lt (by assumption)) | (with_reducible exact Nat.le_of_lt (by assumption)) | (with_reducible exact Int.natCast_nonneg _) | (with_reducible exact Int.le_of_lt (Int.pow_pos (by decide))) | (with_reducible exact Int.pow_pos (by decide)) | (with_reducible exact Nat.lt_of_lt_of_le (by decide) (by assumption)) | (with_reducible exact Int.ne_of_gt (by assumption)) | lia) (by first | (with_reducible assumption) | (with_reducible exact Nat.le_trans (by assumption) (by decide)) | (with_reducible exact b0 (by assumption)) | (with_reducible exact b1 (by assumption)) | (with_reducible exact b2 (by assumption)) | (with_reducible exact Int.le_of_lt (by assumption)) | (with_reducible exact Nat.le_of_lt (by assumption)) | (with_reducible exact Int.natCast_nonneg _) | (with_reducible exact Int.le_of_lt (Int.pow_pos (by decide))) | (with_reducible exact Int.pow_pos (by decide)) | (with_reducible exact Nat.lt_of_lt_of_le (by decide) (by assumption)) | (with_reducible exact Int.ne_of_gt (by assumption)) | lia)
    refine ⟨by simp [h1], h2.append (Lim.one hl.1 hl.2), hq0, by lia, ?_⟩
    rw [val_snoc, h1, va, vb, Int.pow_succ, Int.mul_assoc, Int.add_assoc, ← Int.mul_add, e, Int.mul_add, Int.mul_add]
    lia
theorem add_end {B : Int} (hB : 1 < B) {X Y : Int} (hX : 0 ≤ X) (hY : 0 ≤ Y) (hl : (limbs B Y).length ≤ (limbs B X).length) :
    (0 < (addS B (limbs B X) (limbs B Y) (limbs B X).length).1 → (addS B (limbs B X) (limbs B Y) (limbs B X).length).2 ++ [(addS B (limbs B X) (limbs B Y) (limbs B X).length).1] = limbs B (X + Y)) ∧
    (¬ 0 < (addS B (limbs B X) (limbs B Y) (limbs B X).length).1 → (addS B (limbs B X) (limbs B Y) (limbs B X).length).2 = limbs B (X + Y)) := by
  obtain ⟨h1, h2, h3, h4, h5⟩ := addS_inv hB (lim_limbs hB X) (lim_limbs hB Y) (limbs B X).length
  rw [List.take_of_length_le (Nat.le_refl _), List.take_of_length_le hl, val_limbs hB hX, val_limbs hB hY] at h5
  have hv := val_nonneg hB h2
  constructor
  · intro hc
    have hc1 : (addS B (limbs B X) (limbs B Y) (limbs B X).length).1 = 1 := by lia
    rw [hc1] at h5 ⊢
    have hv2 : val B ((addS B (limbs B X) (limbs B Y) (limbs B X).length).2 ++ [1]) = X + Y := by rw [val_snoc, h1]; exact h5
    rw [← hv2]
    refine limbs_of hB (h2.append (Lim.one (by first | (with_reducible assumption) | (with_reducible exact Nat.le_trans (by assumption) (by decide)) | (with_reducible exact b0 (by assumption)) | (with_reducible exact b1 (by assumption)) | (with_reducible exact b2 (by assumption)) | (with_reducible exact Int.le_of_lt (by assumption)) | (with_reducible exact Nat.le_of_lt (by assumption)) | (with_reducible exact Int.natCast_nonneg _) | (with_reducible exact Int.le_of_lt (Int.pow_pos (by decide))) | (with_reducible exact Int.pow_pos (by decide)) | (with_reducible exact Nat.lt_of_lt_of_le (by decide) (by assumption)) | (with_reducible exact Int.ne_of_gt (by assumption)) | lia) (by first | (with_reducible assumption) | (with_reducible exact Nat.le_trans (by assumption) (by decide)) | (with_reducible exact b0 (by assumption)) | (with_reducible exact b1 (by assumption)) | (with_reducible exact b2 (by assumption)) | (with_reducible exact Int.le_of_lt (by assumption)) | (with_reducible exact Nat.le_of_lt (by assumption)) | (with_reducible exact Int.natCast_nonneg _) | (with_reducible exact Int.le_of_lt (Int.pow_pos (by decide))) | (with_reducible exact Int.pow_pos (by decide)) | (with_reducible exact Nat.lt_of_lt_of_le (by decide) (by assumption)) | (with_reducible exact Int.ne_of_gt (by assumption)) | omega))) (.inr ?_)
    rw [hv2, List.length_append, h1]
    simp
    lia
  · intro hc
    have hc0 : (addS B (limbs B X) (limbs B Y) (limbs B X).length).1 = 0 := by lia
    rw [hc0, Int.mul_zero, Int.add_zero] at h5
    rw [← h5]
    refine limbs_of hB h2 ?_
    rw [h5, h1]
    by_cases hX0 : 0 < X
    · have := limbs_top hB hX0
      exact .inr (by first | (with_reducible assumption) | (with_reducible exact Nat.le_trans (by assumption) (by decide)) | (with_reducible exact b0 (by assumption)) | (with_reducible exact b1 (by assumption)) | (with_reducible exact b2 (by assumption)) | (with_reducible exact Int.le_of_lt (by assumption)) | (with_reducible exact Nat.le_of_lt (by assumption)) | (with_reducible exact Int.natCast_nonneg _) | (with_reducible exact Int.le_of_lt (Int.pow_pos (by decide))) | (with_reducible exact Int.pow_pos (by decide)) | (with_reducible exact Nat.lt_of_lt_of_le (by decide) (by assumption)) | (with_reducible exact Int.ne_of_gt (by assumption)) | lia)
    · left
      rw [limbs_nonpos (by first | (with_reducible assumption) | (with_reducible exact Nat.le_trans (by assumption) (by decide)) | (with_reducible exact b0 (by assumption)) | (with_reducible exact b1 (by assumption)) | (with_reducible exact b2 (by assumption)) | (with_reducible exact Int.le_of_lt (by assumption)) | (with_reducible exact Nat.le_of_lt (by assumption)) | (with_reducible exact Int.natCast_nonneg _) | (with_reducible exact Int.le_of_lt (Int.pow_pos (by decide))) | (with_reducible exact Int.pow_pos (by decide)) | (with_reducible exact Nat.lt_of_lt_of_le (by decide) (by assumption)) | (with_reducible exact Int.ne_of_gt (by assumption)) | lia)] at h1
      rw [limbs_nonpos (X := X) (by first | (with_reducible assumption) | (with_reducible exact Nat.le_trans (by assumption) (by decide)) | (with_reducible exact b0 (by assumption)) | (with_reducible exact b1 (by assumption)) | (with_reducible exact b2 (by assumption)) | (with_reducible exact Int.le_of_lt (by assumption)) | (with_reducible exact Nat.le_of_lt (by assumption)) | (with_reducible exact Int.natCast_nonneg _) | (with_reducible exact Int.le_of_lt (Int.pow_pos (by decide))) | (with_reducible exact Int.pow_pos (by decide)) | (with_reducible exact Nat.lt_of_lt_of_le (by decide) (by assumption)) | (with_reducible exact Int.ne_of_gt (by assumption)) | lia)]
      exact List.length_eq_zero_iff.mp (by simpa using h1)
noncomputable def subS (B : Int) (a b : List Int) : Nat → Int × List Int
  | 0 => (0, [])
  | i + 1 => (if a.getD i 0 - (subS B a b i).1 - b.getD i 0 < 0 then 1 else 0, (subS B a b i).2 ++ [if a.getD i 0 - (subS B a b i).1 - b.getD i 0 < 0 then a.getD i 0 - (subS B a b i).1 - b.getD i 0 + B else a.getD i 0 - (subS B a b i).1 - b.getD i 0])
theorem subS_inv {B : Int} (hB : 1 < B) {a b : List Int} (ha : Lim B a) (hb : Lim B b) : ∀ i, (subS B a b i).2.length = i ∧ Lim B (subS B a b i).2 ∧ 0 ≤ (subS B a b i).1 ∧ (subS B a b i).1 ≤ 1 ∧ val B (subS B a b i).2 + val B (b.take i) = val B (a.take i) + B ^ i * (subS B a b i).1
  | 0 => ⟨rfl, .nil, Int.le_refl _, by show (0 : Int) ≤ 1; decide, by simp [subS, val]⟩
  | i + 1 => by
    obtain ⟨h1, h2, h3, h4, h5⟩ := subS_inv hB ha hb i
    have ga := ha.getD hB i
    have gb := hb.getD hB i
    have va := val_take' (B := B) a i
    have vb := val_take' (B := B) b i
    rw [subS]
    generalize (subS B a b i).1 = cr at *
    generalize (subS B a b i).2 = fd at *
    dsimp only
    generalize a.getD i 0 = x at *
    generalize b.getD i 0 = y at *
    by_cases ht : x - cr - y < 0
    · rw [if_pos ht, if_pos ht]
      refine ⟨by simp [h1], h2.append (Lim.one (by first | (with_reducible assumption) | (with_reducible exact Nat.le_trans (by assumption) (by decide)) | (with_reducible exact b0 (by assumption)) | (with_reducible exact b1 (by assumption)) | (with_reducible exact b2 (by assumption)) | (with_reducible exact Int.le_of_lt (by assumption)) | (with_reducible exact Nat.le_of_lt (by assumption)) | (with_reducible exact Int.natCast_nonneg _) | (with_reducible exact Int.le_of_lt (Int.pow_pos (by decide))) | (with_reducible exact Int.pow_pos (by decide)) | (with_reducible exact Nat.lt_of_lt_of_le (by decide) (by assumption)) | (with_reducible exact Int.ne_of_gt (by assumption)) | lia) (by first | (with_reducible assumption) | (with_reducible exact Nat.le_trans (by assumption) (by decide)) | (with_reducible exact b0 (by assumption)) | (with_reducible exact b1 (by assumption)) | (with_reducible exact b2 (by assumption)) | (with_reducible exact Int.le_of_lt (by assumption)) | (with_reducible exact Nat.le_of_lt (by assumption)) | (with_reducible exact Int.natCast_nonneg _) | (with_reducible exact Int.le_of_lt (Int.pow_pos (by decide))) | (with_reducible exact Int.pow_pos (by decide)) | (with_reducible exact Nat.lt_of_lt_of_le (by decide) (by assumption)) | (with_reducible exact Int.ne_of_gt (by assumption)) | lia)), by decide, by decide, ?_⟩
      rw [val_snoc, h1, va, vb, Int.pow_succ, Int.mul_one, Int.mul_add, Int.mul_sub, Int.mul_sub]
      lia
    · rw [if_neg ht, if_neg ht]
      refine ⟨by simp [h1], h2.append (Lim.one (by first | (with_reducible assumption) | (with_reducible exact Nat.le_trans (by assumption) (by decide)) | (with_reducible exact b0 (by assumption)) | (with_reducible exact b1 (by assumption)) | (with_reducible exact b2 (by assumption)) | (with_reducible exact Int.le_of_lt (by assumption)) | (with_reducible exact Nat.le_of_lt (by assumption)) | (with_reducible exact Int.natCast_nonneg _) | (with_reducible exact Int.le_of_lt (Int.pow_pos (by decide))) | (with_reducible exact Int.pow_pos (by decide)) | (with_reducible exact Nat.lt_of_lt_of_le (by decide) (by assumption)) | (with_reducible exact Int.ne_of_gt (by assumption)) | lia) (by first | (with_reducible assumption) | (with_reducible exact Nat.le_trans (by assumption) (by decide)) | (with_reducible exact b0 (by assumption)) | (with_reducible exact b1 (by assumption)) | (with_reducible exact b2 (by assumption)) | (with_reducible exact Int.le_of_lt (by assumption)) | (with_reducible exact Nat.le_of_lt (by assumption)) | (with_reducible exact Int.natCast_nonneg _) | (with_reducible exact Int.le_of_lt (Int.pow_pos (by decide))) | (with_reducible exact Int.pow_pos (by decide)) | (with_reducible exact Nat.lt_of_lt_of_le (by decide) (by assumption)) | (with_reducible exact Int.ne_of_gt (by assumption)) | lia)), by decide, by decide, ?_⟩
      rw [val_snoc, h1, va, vb, Int.mul_zero, Int.mul_sub, Int.mul_sub]
      lia
theorem limbs_len_mono {B : Int} (hB : 1 < B) {X Y : Int} (hX : 0 ≤ X) (h : Y ≤ X) : (limbs B Y).length ≤ (limbs B X).length := limbs_len_le hB (Int.lt_of_le_of_lt h (limbs_lt hB hX))
theorem sub_end {B : Int} (hB : 1 < B) {X Y : Int} (hY : 0 ≤ Y) (h : Y ≤ X) : strip (subS B (limbs B X) (limbs B Y) (limbs B X).length).2 = limbs B (X - Y) := by
  have hX : 0 ≤ X := by lia
  obtain ⟨h1, h2, h3, h4, h5⟩ := subS_inv hB (lim_limbs hB X) (lim_limbs hB Y) (limbs B X).length
  rw [List.take_of_length_le (Nat.le_refl _), List.take_of_length_le (limbs_len_mono hB hX h), val_limbs hB hX, val_limbs hB hY] at h5
  have hv := val_lt hB h2
  rw [h1] at hv
  rw [← limbs_val hB h2]
  have hc : (subS B (limbs B X) (limbs B Y) (limbs B X).length).1 = 0 ∨ (subS B (limbs B X) (limbs B Y) (limbs B X).length).1 = 1 := by lia
  rcases hc with hc | hc <;> rw [hc] at h5
  · rw [show val B (subS B (limbs B X) (limbs B Y) (limbs B X).length).2 = X - Y by lia]
  · lia
theorem val_same {B : Int} : ∀ {a b : List Int}, a.length = b.length → (∀ j, a.getD j 0 = b.getD j 0) → val B a = val B b
  | [], [], _, _ => rfl
  | x :: r, y :: s, hl, h => by
    have h0 : x = y := by simpa using h 0
    have h1 := val_same (B := B) (a := r) (b := s) (by simpa using hl) fun j => by simpa using h (j + 1)
    rw [val, val, h0, h1]
theorem val_cmp {B : Int} (hB : 1 < B) : ∀ {a b : List Int} (at' : Nat), Lim B a → Lim B b → a.length = b.length → (∀ j, at' < j → a.getD j 0 = b.getD j 0) → a.getD at' 0 < b.getD at' 0 → val B a < val B b
  | [], [], _, _, _, _, _, h => by simp at h
  | x :: r, y :: s, 0, ha, hb, hl, he, h => by
    have h1 := val_same (B := B) (a := r) (b := s) (by simpa using hl) fun j => by simpa using he (j + 1) (by first | (with_reducible assumption) | (with_reducible exact Nat.le_trans (by assumption) (by decide)) | (with_reducible exact b0 (by assumption)) | (with_reducible exact b1 (by assumption)) | (with_reducible exact b2 (by assumption)) | (with_reducible exact Int.le_of_lt (by assumption)) | (with_reducible exact Nat.le_of_lt (by assumption)) | (with_reducible exact Int.natCast_nonneg _) | (with_reducible exact Int.le_of_lt (Int.pow_pos (by decide))) | (with_reducible exact Int.pow_pos (by decide)) | (with_reducible exact Nat.lt_of_lt_of_le (by decide) (by assumption)) | (with_reducible exact Int.ne_of_gt (by assumption)) | lia)
    have h2 : x < y := by simpa using h
    rw [val, val, h1]; lia
  | x :: r, y :: s, at' + 1, ha, hb, hl, he, h => by
    have h1 := val_cmp hB (a := r) (b := s) at' ha.tail hb.tail (by simpa using hl) (fun j hj => by simpa using he (j + 1) (by first | (with_reducible assumption) | (with_reducible exact Nat.le_trans (by assumption) (by decide)) | (with_reducible exact b0 (by assumption)) | (with_reducible exact b1 (by assumption)) | (with_reducible exact b2 (by assumption)) | (with_reducible exact Int.le_of_lt (by assumption)) | (with_reducible exact Nat.le_of_lt (by assumption)) | (with_reducible exact Int.natCast_nonneg _) | (with_reducible exact Int.le_of_lt (Int.pow_pos (by decide))) | (with_reducible exact Int.pow_pos (by decide)) | (with_reducible exact Nat.lt_of_lt_of_le (by decide) (by assumption)) | (with_reducible exact Int.ne_of_gt (by assumption)) | lia)) (by simpa using h)
    have h2 := ha.head
    have h3 := hb.head
    have h4 : B * (val B r + 1) ≤ B * val B s := Int.mul_le_mul_of_nonneg_left (by first | (with_reducible assumption) | (with_reducible exact Nat.le_trans (by assumption) (by decide)) | (with_reducible exact b0 (by assumption)) | (with_reducible exact b1 (by assumption)) | (with_reducible exact b2 (by assumption)) | (with_reducible exact Int.le_of_lt (by assumption)) | (with_reducible exact Nat.le_of_lt (by assumption)) | (with_reducible exact Int.natCast_nonneg _) | (with_reducible exact Int.le_of_lt (Int.pow_pos (by decide))) | (with_reducible exact Int.pow_pos (by decide)) | (with_reducible exact Nat.lt_of_lt_of_le (by decide) (by assumption)) | (with_reducible exact Int.ne_of_gt (by assumption)) | lia) (by first | (with_reducible assumption) | (with_reducible exact Nat.le_trans (by assumption) (by decide)) | (with_reducible exact b0 (by assumption)) | (with_reducible exact b1 (by assumption)) | (with_reducible exact b2 (by assumption)) | (with_reducible exact Int.le_of_lt (by assumption)) | (with_reducible exact Nat.le_of_lt (by assumption)) | (with_reducible exact Int.natCast_nonneg _) | (with_reducible exact Int.le_of_lt (Int.pow_pos (by decide))) | (with_reducible exact Int.pow_pos (by decide)) | (with_reducible exact Nat.lt_of_lt_of_le (by decide) (by assumption)) | (with_reducible exact Int.ne_of_gt (by assumption)) | lia)
    rw [Int.mul_add] at h4
    rw [val, val]; lia
noncomputable def cmpI (X Y : Int) : Int := if X < Y then -1 else if Y < X then 1 else 0
theorem bs_gt {w : Nat} (h : 0 < w) : 1 < (2 : Int) ^ w := by
  obtain ⟨n, rfl⟩ : ∃ n, w = n + 1 := ⟨w - 1, by lia⟩
  have := Int.pow_pos (n := 2) (m := n) (by decide)
  rw [Int.pow_succ]; lia

theorem bitOr_eq (x y : Int) : Builtin.bitOr x y = x + y - Builtin.bitAnd x y := bitOr_and x y
theorem bitAnd_zero (x : Int) : Builtin.bitAnd 0 x = 0 := by rw [bitAnd_comm, PyProof.Rows.bitAnd_zero]
theorem limbs_shift {B : Int} (hB : 1 < B) {X : Int} (hX : 0 < X) : ∀ q : Nat, limbs B (B ^ q * X) = List.replicate q 0 ++ limbs B X
  | 0 => by simp
  | q + 1 => by
    have hp : 0 < B ^ q * X := Int.mul_pos (pow_pos' hB q) hX
    have e : B ^ (q + 1) * X = 0 + B * (B ^ q * X) := by rw [pow_succ', Int.mul_assoc]; lia
    obtain ⟨e1, e2⟩ := div_of (B := B) (x := 0) (v := B ^ q * X) (by first | (with_reducible assumption) | (with_reducible exact Nat.le_trans (by assumption) (by decide)) | (with_reducible exact b0 (by assumption)) | (with_reducible exact b1 (by assumption)) | (with_reducible exact b2 (by assumption)) | (with_reducible exact Int.le_of_lt (by assumption)) | (with_reducible exact Nat.le_of_lt (by assumption)) | (with_reducible exact Int.natCast_nonneg _) | (with_reducible exact Int.le_of_lt (Int.pow_pos (by decide))) | (with_reducible exact Int.pow_pos (by decide)) | (with_reducible exact Nat.lt_of_lt_of_le (by decide) (by assumption)) | (with_reducible exact Int.ne_of_gt (by assumption)) | lia) (by first | (with_reducible assumption) | (with_reducible exact Nat.le_trans (by assumption) (by decide)) | (with_reducible exact b0 (by assumption)) | (with_reducible exact b1 (by assumption)) | (with_reducible exact b2 (by assumption)) | (with_reducible exact Int.le_of_lt (by assumption)) | (with_reducible exact Nat.le_of_lt (by assumption)) | (with_reducible exact Int.natCast_nonneg _) | (with_reducible exact Int.le_of_lt (Int.pow_pos (by decide))) | (with_reducible exact Int.pow_pos (by decide)) | (with_reducible exact Nat.lt_of_lt_of_le (by decide) (by assumption)) | (with_reducible exact Int.ne_of_gt (by assumption)) | lia)
    rw [e]
    rw [limbs_pos hB (by have := Int.mul_pos (show 0 < B by lia) hp; lia), e1, e2, limbs_shift hB hX q, List.replicate_succ]; rfl
theorem limbs_one {B : Int} (hB : 1 < B) {X : Int} (h0 : 0 < X) (h1 : X < B) : limbs B X = [X] := by
  rw [limbs_pos hB h0, Int.emod_eq_of_lt (by first | (with_reducible assumption) | (with_reducible exact Nat.le_trans (by assumption) (by decide)) | (with_reducible exact b0 (by assumption)) | (with_reducible exact b1 (by assumption)) | (with_reducible exact b2 (by assumption)) | (with_reducible exact Int.le_of_lt (by assumption)) | (with_reducible exact Nat.le_of_lt (by assumption)) | (with_reducible exact Int.natCast_nonneg _) | (with_reducible exact Int.le_of_lt (Int.pow_pos (by decide))) | (with_reducible exact Int.pow_pos (by decide)) | (with_reducible exact Nat.lt_of_lt_of_le (by decide) (by assumption)) | (with_reducible exact Int.ne_of_gt (by assumption)) | lia) h1, Int.ediv_eq_zero_of_lt (by first | (with_reducible assumption) | (with_reducible exact Nat.le_trans (by assumption) (by decide)) | (with_reducible exact b0 (by assumption)) | (with_reducible exact b1 (by assumption)) | (with_reducible exact b2 (by assumption)) | (with_reducible exact Int.le_of_lt (by assumption)) | (with_reducible exact Nat.le_of_lt (by assumption)) | (with_reducible exact Int.natCast_nonneg _) | (with_reducible exact Int.le_of_lt (Int.pow_pos (by decide))) | (with_reducible exact Int.pow_pos (by decide)) | (with_reducible exact Nat.lt_of_lt_of_le (by decide) (by assumption)) | (with_reducible exact Int.ne_of_gt (by assumption)) | lia) h1, limbs_nonpos (Int.le_refl _)]
theorem two_pow (w N : Nat) : (2 : Int) ^ N = (2 ^ w) ^ (N / w) * 2 ^ (N % w) := by
  rw [← Int.pow_mul, ← Int.pow_add, Nat.div_add_mod]
theorem pow_lt_pow {a b : Nat} (h : a < b) : (2 : Int) ^ a < 2 ^ b := Int.pow_lt_pow_of_lt (by decide) h
theorem pow_le_pow {a b : Nat} (h : a ≤ b) : (2 : Int) ^ a ≤ 2 ^ b := by
  rw [← kbt_cast, ← kbt_cast]
  exact Int.ofNat_le.mpr (Nat.pow_le_pow_right (by decide) h)
theorem limbs_two {w : Nat} (hw : 0 < w) (N : Nat) : limbs (2 ^ w) (2 ^ N) = List.replicate (N / w) 0 ++ [2 ^ (N % w)] := by
  have hB := bs_gt hw
  have hp := Int.pow_pos (n := 2) (m := N % w) (by decide)
  rw [two_pow w N, limbs_shift hB hp, limbs_one hB hp (pow_lt_pow (Nat.mod_lt _ hw))]
theorem emod_low (Y : Int) {w r : Nat} (h : r < w) : (Y % 2 ^ w) / 2 ^ r % 2 = Y / 2 ^ r % 2 := by
  obtain ⟨d, rfl⟩ : ∃ d, w = r + (d + 1) := ⟨w - r - 1, by lia⟩
  have h1 := Int.emod_add_mul_ediv Y (2 ^ (r + (d + 1)))
  have hp := Int.pow_pos (n := 2) (m := r) (by decide)
  have e : Y = Y % 2 ^ (r + (d + 1)) + 2 ^ r * (2 * (2 ^ d * (Y / 2 ^ (r + (d + 1))))) := by
    have : (2 : Int) ^ (r + (d + 1)) * (Y / 2 ^ (r + (d + 1))) = 2 ^ r * (2 * (2 ^ d * (Y / 2 ^ (r + (d + 1))))) := by
      rw [Int.pow_add, Int.pow_succ, Int.mul_assoc, Int.mul_comm (2 ^ d) 2, Int.mul_assoc]
    lia
  generalize hq : (2 : Int) ^ d * (Y / 2 ^ (r + (d + 1))) = q at e
  have h2 : Y / 2 ^ r = Y % 2 ^ (r + (d + 1)) / 2 ^ r + 2 * q := by
    conv => lhs; rw [e]
    rw [Int.add_mul_ediv_left _ _ (by first | (with_reducible assumption) | (with_reducible exact Nat.le_trans (by assumption) (by decide)) | (with_reducible exact b0 (by assumption)) | (with_reducible exact b1 (by assumption)) | (with_reducible exact b2 (by assumption)) | (with_reducible exact Int.le_of_lt (by assumption)) | (with_reducible exact Nat.le_of_lt (by assumption)) | (with_reducible exact Int.natCast_nonneg _) | (with_reducible exact Int.le_of_lt (Int.pow_pos (by decide))) | (with_reducible exact Int.pow_pos (by decide)) | (with_reducible exact Nat.lt_of_lt_of_le (by decide) (by assumption)) | (with_reducible exact Int.ne_of_gt (by assumption)) | lia)]
  rw [h2]; lia
theorem bit_in {w : Nat} (hw : 0 < w) (X : Int) (N : Nat) : (X / (2 ^ w) ^ (N / w) % 2 ^ w) / 2 ^ (N % w) % 2 = X / 2 ^ N % 2 := by
  rw [emod_low _ (Nat.mod_lt _ hw), Int.ediv_ediv_of_nonneg (Int.le_of_lt (Int.pow_pos (Int.pow_pos (by decide)))), ← two_pow]
theorem bit_out {w : Nat} (hw : 0 < w) {X : Int} (hX : 0 ≤ X) {N : Nat} (h : (limbs (2 ^ w) X).length ≤ N / w) : X / 2 ^ N % 2 = 0 := by
  have hB := bs_gt hw
  have h1 := limbs_lt hB hX
  have h2 : ((2 : Int) ^ w) ^ (limbs (2 ^ w) X).length ≤ 2 ^ N := by
    rw [← Int.pow_mul]
    refine pow_le_pow ?_
    have := Nat.mul_le_mul_left w h
    have := Nat.mul_div_le N w
    lia
  rw [Int.ediv_eq_zero_of_lt hX (by first | (with_reducible assumption) | (with_reducible exact Nat.le_trans (by assumption) (by decide)) | (with_reducible exact b0 (by assumption)) | (with_reducible exact b1 (by assumption)) | (with_reducible exact b2 (by assumption)) | (with_reducible exact Int.le_of_lt (by assumption)) | (with_reducible exact Nat.le_of_lt (by assumption)) | (with_reducible exact Int.natCast_nonneg _) | (with_reducible exact Int.le_of_lt (Int.pow_pos (by decide))) | (with_reducible exact Int.pow_pos (by decide)) | (with_reducible exact Nat.lt_of_lt_of_le (by decide) (by assumption)) | (with_reducible exact Int.ne_of_gt (by assumption)) | lia)]; rfl

theorem bitAnd_not (a b : Int) : Builtin.bitAnd a (-1 - b) = a - Builtin.bitAnd a b := by
  rw [show -1 - b = Builtin.bitNot b by unfold Builtin.bitNot; lia]; exact PyProof.Rows.bitAnd_not a b
theorem div_not {B : Int} (hB : 0 < B) (Y : Int) : (-1 - Y) / B = -1 - Y / B := by
  have h := (kbt_below (-1 - Y) hB).1
  rw [show -(-1 - Y) - 1 = Y by lia] at h
  lia
noncomputable def bitI (X : Int) (N : Nat) : Int := X / 2 ^ N % 2
theorem bitI_two (X : Int) (N : Nat) : bitI X N = 0 ∨ bitI X N = 1 := by unfold bitI; lia
theorem bitI_not (X : Int) (N : Nat) : bitI (-1 - X) N = 1 - bitI X N := by
  unfold bitI
  rw [div_not (Int.pow_pos (by decide))]; lia
theorem bitI_le {X : Int} (h0 : 0 ≤ X) {N : Nat} (h : bitI X N = 1) : (2 : Int) ^ N ≤ X := by
  by_cases hl : X < 2 ^ N
  · unfold bitI at h
    rw [Int.ediv_eq_zero_of_lt h0 hl] at h
    cases h
  · lia
theorem or_bit (X : Int) (N : Nat) : Builtin.bitOr X (2 ^ N) = if bitI X N = 1 then X else X + 2 ^ N := by
  rw [bitOr_eq, kbt_bit]
  show X + 2 ^ N - bitI X N * 2 ^ N = _
  rcases bitI_two X N with h | h <;> rw [h]
  · rw [if_neg (by decide)]; lia
  · rw [if_pos rfl]; lia
theorem xor_bit (X : Int) (N : Nat) : Builtin.bitXor X (2 ^ N) = if bitI X N = 1 then X - 2 ^ N else X + 2 ^ N := by
  rw [bitXor_and, kbt_bit]
  show X + 2 ^ N - 2 * (bitI X N * 2 ^ N) = _
  rcases bitI_two X N with h | h <;> rw [h]
  · rw [if_neg (by decide)]; lia
  · rw [if_pos rfl]; lia
theorem and_bit (X : Int) (N : Nat) : Builtin.bitAnd X (0 - 1 - 2 ^ N) = if bitI X N = 1 then X - 2 ^ N else X := by
  rw [show (0 - 1 - 2 ^ N : Int) = -1 - 2 ^ N by lia, bitAnd_not, kbt_bit]
  show X - bitI X N * 2 ^ N = _
  rcases bitI_two X N with h | h <;> rw [h]
  · rw [if_neg (by decide)]; lia
  · rw [if_pos rfl]; lia
theorem limbs_1 {B : Int} (hB : 1 < B) : limbs B 1 = [1] := limbs_one hB (by decide) hB

theorem half_mod {M : Int} (hM : 0 < M) (X : Int) : (X % (2 * M)) / 2 = X / 2 % M ∧ (X % (2 * M)) % 2 = X % 2 := by
  have h0 := Int.emod_nonneg X (b := 2 * M) (by first | (with_reducible assumption) | (with_reducible exact Nat.le_trans (by assumption) (by decide)) | (with_reducible exact b0 (by assumption)) | (with_reducible exact b1 (by assumption)) | (with_reducible exact b2 (by assumption)) | (with_reducible exact Int.le_of_lt (by assumption)) | (with_reducible exact Nat.le_of_lt (by assumption)) | (with_reducible exact Int.natCast_nonneg _) | (with_reducible exact Int.le_of_lt (Int.pow_pos (by decide))) | (with_reducible exact Int.pow_pos (by decide)) | (with_reducible exact Nat.lt_of_lt_of_le (by decide) (by assumption)) | (with_reducible exact Int.ne_of_gt (by assumption)) | lia)
  have h1 := Int.emod_lt_of_pos X (b := 2 * M) (by first | (with_reducible assumption) | (with_reducible exact Nat.le_trans (by assumption) (by decide)) | (with_reducible exact b0 (by assumption)) | (with_reducible exact b1 (by assumption)) | (with_reducible exact b2 (by assumption)) | (with_reducible exact Int.le_of_lt (by assumption)) | (with_reducible exact Nat.le_of_lt (by assumption)) | (with_reducible exact Int.natCast_nonneg _) | (with_reducible exact Int.le_of_lt (Int.pow_pos (by decide))) | (with_reducible exact Int.pow_pos (by decide)) | (with_reducible exact Nat.lt_of_lt_of_le (by decide) (by assumption)) | (with_reducible exact Int.ne_of_gt (by assumption)) | lia)
  have h2 := Int.emod_add_mul_ediv X (2 * M)
  rw [Int.mul_assoc] at h2
  generalize X % (2 * M) = r at *
  generalize hq : M * (X / (2 * M)) = q at *
  have h3 : X / 2 = r / 2 + M * (X / (2 * M)) := by rw [hq]; lia
  refine ⟨?_, by lia⟩
  rw [h3, Int.add_mul_emod_self_left, Int.emod_eq_of_lt (by first | (with_reducible assumption) | (with_reducible exact Nat.le_trans (by assumption) (by decide)) | (with_reducible exact b0 (by assumption)) | (with_reducible exact b1 (by assumption)) | (with_reducible exact b2 (by assumption)) | (with_reducible exact Int.le_of_lt (by assumption)) | (with_reducible exact Nat.le_of_lt (by assumption)) | (with_reducible exact Int.natCast_nonneg _) | (with_reducible exact Int.le_of_lt (Int.pow_pos (by decide))) | (with_reducible exact Int.pow_pos (by decide)) | (with_reducible exact Nat.lt_of_lt_of_le (by decide) (by assumption)) | (with_reducible exact Int.ne_of_gt (by assumption)) | lia) (by first | (with_reducible assumption) | (with_reducible exact Nat.le_trans (by assumption) (by decide)) | (with_reducible exact b0 (by assumption)) | (with_reducible exact b1 (by assumption)) | (with_reducible exact b2 (by assumption)) | (with_reducible exact Int.le_of_lt (by assumption)) | (with_reducible exact Nat.le_of_lt (by assumption)) | (with_reducible exact Int.natCast_nonneg _) | (with_reducible exact Int.le_of_lt (Int.pow_pos (by decide))) | (with_reducible exact Int.pow_pos (by decide)) | (with_reducible exact Nat.lt_of_lt_of_le (by decide) (by assumption)) | (with_reducible exact Int.ne_of_gt (by assumption)) | lia)]
theorem and_split : ∀ (n : Nat) (X Y : Int), Builtin.bitAnd X Y = 2 ^ n * Builtin.bitAnd (X / 2 ^ n) (Y / 2 ^ n) + Builtin.bitAnd (X % 2 ^ n) (Y % 2 ^ n)
  | 0, X, Y => by simp [Int.emod_one, bitAnd_zero]
  | n + 1, X, Y => by
    have hM : (0 : Int) < 2 ^ n := Int.pow_pos (by decide)
    obtain ⟨a1, a2⟩ := half_mod hM X
    obtain ⟨b1, b2⟩ := half_mod hM Y
    have e1 := kbt_halves X Y
    have e2 := kbt_halves (X % (2 * 2 ^ n)) (Y % (2 * 2 ^ n))
    rw [a1, a2, b1, b2] at e2
    have e3 := and_split n (X / 2) (Y / 2)
    rw [Int.ediv_ediv_of_nonneg (by decide), Int.ediv_ediv_of_nonneg (by decide)] at e3
    rw [pow_succ', e1, e3, e2, Int.mul_add, Int.mul_assoc]
    lia
noncomputable def Dig (op : Int → Int → Int) : Prop := ∀ (n : Nat) (X Y : Int), op X Y / 2 ^ n = op (X / 2 ^ n) (Y / 2 ^ n) ∧ op X Y % 2 ^ n = op (X % 2 ^ n) (Y % 2 ^ n)
theorem dig_of {op : Int → Int → Int} (h1 : ∀ (n : Nat) (X Y : Int), op X Y = 2 ^ n * op (X / 2 ^ n) (Y / 2 ^ n) + op (X % 2 ^ n) (Y % 2 ^ n)) (h2 : ∀ (n : Nat) (x y : Int), 0 ≤ x → 0 ≤ y → x < 2 ^ n → y < 2 ^ n → 0 ≤ op x y ∧ op x y < 2 ^ n) : Dig op := by
  intro n X Y
  have hM : (0 : Int) < 2 ^ n := Int.pow_pos (by decide)
  obtain ⟨a, b⟩ := h2 n (X % 2 ^ n) (Y % 2 ^ n) (Int.emod_nonneg _ (by first | (with_reducible assumption) | (with_reducible exact Nat.le_trans (by assumption) (by decide)) | (with_reducible exact b0 (by assumption)) | (with_reducible exact b1 (by assumption)) | (with_reducible exact b2 (by assumption)) | (with_reducible exact Int.le_of_lt (by assumption)) | (with_reducible exact Nat.le_of_lt (by assumption)) | (with_reducible exact Int.natCast_nonneg _) | (with_reducible exact Int.le_of_lt (Int.pow_pos (by decide))) | (with_reducible exact Int.pow_pos (by decide)) | (with_reducible exact Nat.lt_of_lt_of_le (by decide) (by assumption)) | (with_reducible exact Int.ne_of_gt (by assumption)) | lia)) (Int.emod_nonneg _ (by first | (with_reducible assumption) | (with_reducible exact Nat.le_trans (by assumption) (by decide)) | (with_reducible exact b0 (by assumption)) | (with_reducible exact b1 (by assumption)) | (with_reducible exact b2 (by assumption)) | (with_reducible exact Int.le_of_lt (by assumption)) | (with_reducible exact Nat.le_of_lt (by assumption)) | (with_reducible exact Int.natCast_nonneg _) | (with_reducible exact Int.le_of_lt (Int.pow_pos (by decide))) | (with_reducible exact Int.pow_pos (by decide)) | (with_reducible exact Nat.lt_of_lt_of_le (by decide) (by assumption)) | (with_reducible exact Int.ne_of_gt (by assumption)) | lia)) (Int.emod_lt_of_pos _ hM) (Int.emod_lt_of_pos _ hM)
  exact kbt_unique hM (by rw [h1 n X Y, Int.add_comm]) a b
theorem dig_and : Dig Builtin.bitAnd := dig_of and_split fun n x y _ h0 _ h1 => by
  obtain ⟨a, b⟩ := bitAnd_range x h0
  exact ⟨a, by lia⟩
theorem or_lt (n : Nat) (x y : Int) (hx : 0 ≤ x) (hy : 0 ≤ y) (h1 : x < 2 ^ n) (h2 : y < 2 ^ n) : x + y - Builtin.bitAnd x y < 2 ^ n ∧ Builtin.bitAnd x y ≤ x ∧ Builtin.bitAnd x y ≤ y := by
  obtain ⟨a, rfl⟩ := Int.eq_ofNat_of_zero_le hx
  obtain ⟨b, rfl⟩ := Int.eq_ofNat_of_zero_le hy
  rw [← kbt_cast] at h1 h2 ⊢
  rw [bitAnd_pp hx hy]
  have h := nat_or_add_and a b
  have l := Nat.or_lt_two_pow (Int.ofNat_lt.mp h1) (Int.ofNat_lt.mp h2)
  have l1 := @Nat.and_le_left a b
  have l2 := @Nat.and_le_right a b
  show (a : Int) + b - ((a &&& b : Nat) : Int) < _ ∧ ((a &&& b : Nat) : Int) ≤ a ∧ ((a &&& b : Nat) : Int) ≤ b
  generalize a &&& b = z at *
  generalize a ||| b = y at *
  lia
theorem dig_or : Dig Builtin.bitOr := dig_of (fun n X Y => by
    have e := and_split n X Y
    have h1 := Int.emod_add_mul_ediv X (2 ^ n)
    have h2 := Int.emod_add_mul_ediv Y (2 ^ n)
    rw [bitOr_and, bitOr_and, bitOr_and, Int.mul_sub, Int.mul_add]
    lia) fun n x y hx hy h1 h2 => by
  have := or_lt n x y hx hy h1 h2
  rw [bitOr_and]; lia
theorem dig_xor : Dig Builtin.bitXor := dig_of (fun n X Y => by
    have e := and_split n X Y
    have h1 := Int.emod_add_mul_ediv X (2 ^ n)
    have h2 := Int.emod_add_mul_ediv Y (2 ^ n)
    rw [bitXor_and, bitXor_and, bitXor_and, Int.mul_sub, Int.mul_add, Int.mul_left_comm]
    lia) fun n x y hx hy h1 h2 => by
  have := or_lt n x y hx hy h1 h2
  have := (bitAnd_range x hy).1
  rw [bitXor_and]; lia
theorem pow_pow (n m : Nat) : ((2 : Int) ^ n) ^ m = 2 ^ (n * m) := Int.pow_mul.symm
theorem row_op {op : Int → Int → Int} (h : Dig op) {n : Nat} (hB : 1 < (2 : Int) ^ n) {size : Nat} (X Y : Int) {i : Nat} (hi : i < size) : (row (2 ^ n) size (op X Y)).getD i 0 = op ((row (2 ^ n) size X).getD i 0) ((row (2 ^ n) size Y).getD i 0) := by
  rw [row_getD hB _ _ _ hi, row_getD hB _ _ _ hi, row_getD hB _ _ _ hi, pow_pow, (h _ _ _).1, (h _ _ _).2]
noncomputable def Fit (M X : Int) : Prop := -M ≤ X ∧ X < M
theorem fit_div {M X : Int} (hM : 0 < M) : Fit M X ↔ X / M = 0 ∨ X / M = -1 := by
  have h0 := Int.emod_nonneg X (b := M) (by first | (with_reducible assumption) | (with_reducible exact Nat.le_trans (by assumption) (by decide)) | (with_reducible exact b0 (by assumption)) | (with_reducible exact b1 (by assumption)) | (with_reducible exact b2 (by assumption)) | (with_reducible exact Int.le_of_lt (by assumption)) | (with_reducible exact Nat.le_of_lt (by assumption)) | (with_reducible exact Int.natCast_nonneg _) | (with_reducible exact Int.le_of_lt (Int.pow_pos (by decide))) | (with_reducible exact Int.pow_pos (by decide)) | (with_reducible exact Nat.lt_of_lt_of_le (by decide) (by assumption)) | (with_reducible exact Int.ne_of_gt (by assumption)) | lia)
  have h1 := Int.emod_lt_of_pos X hM
  have h2 := Int.emod_add_mul_ediv X M
  unfold Fit
  constructor
  · rintro ⟨a, b⟩
    by_cases hX : 0 ≤ X
    · exact .inl (Int.ediv_eq_zero_of_lt hX b)
    · refine .inr ?_
      have e := div_not hM (-1 - X)
      have e2 : (-1 - X) / M = 0 := Int.ediv_eq_zero_of_lt (by first | (with_reducible assumption) | (with_reducible exact Nat.le_trans (by assumption) (by decide)) | (with_reducible exact b0 (by assumption)) | (with_reducible exact b1 (by assumption)) | (with_reducible exact b2 (by assumption)) | (with_reducible exact Int.le_of_lt (by assumption)) | (with_reducible exact Nat.le_of_lt (by assumption)) | (with_reducible exact Int.natCast_nonneg _) | (with_reducible exact Int.le_of_lt (Int.pow_pos (by decide))) | (with_reducible exact Int.pow_pos (by decide)) | (with_reducible exact Nat.lt_of_lt_of_le (by decide) (by assumption)) | (with_reducible exact Int.ne_of_gt (by assumption)) | lia) (by first | (with_reducible assumption) | (with_reducible exact Nat.le_trans (by assumption) (by decide)) | (with_reducible exact b0 (by assumption)) | (with_reducible exact b1 (by assumption)) | (with_reducible exact b2 (by assumption)) | (with_reducible exact Int.le_of_lt (by assumption)) | (with_reducible exact Nat.le_of_lt (by assumption)) | (with_reducible exact Int.natCast_nonneg _) | (with_reducible exact Int.le_of_lt (Int.pow_pos (by decide))) | (with_reducible exact Int.pow_pos (by decide)) | (with_reducible exact Nat.lt_of_lt_of_le (by decide) (by assumption)) | (with_reducible exact Int.ne_of_gt (by assumption)) | lia)
      rw [show -1 - (-1 - X) = X by lia, e2] at e
      exact e
  · rintro (e | e) <;> rw [e] at h2 <;> lia
theorem fit_op {op : Int → Int → Int} (h : Dig op) (h2 : ∀ a b : Int, (a = 0 ∨ a = -1) → (b = 0 ∨ b = -1) → op a b = 0 ∨ op a b = -1) {k : Nat} {X Y : Int} (hX : Fit (2 ^ k) X) (hY : Fit (2 ^ k) Y) : Fit (2 ^ k) (op X Y) := by
  have hM : (0 : Int) < 2 ^ k := Int.pow_pos (by decide)
  rw [fit_div hM] at hX hY ⊢
  rw [(h _ _ _).1]
  exact h2 _ _ hX hY
theorem two_and : ∀ a b : Int, (a = 0 ∨ a = -1) → (b = 0 ∨ b = -1) → Builtin.bitAnd a b = 0 ∨ Builtin.bitAnd a b = -1 := by
  rintro a b (rfl | rfl) (rfl | rfl) <;> decide
theorem two_or : ∀ a b : Int, (a = 0 ∨ a = -1) → (b = 0 ∨ b = -1) → Builtin.bitOr a b = 0 ∨ Builtin.bitOr a b = -1 := by
  rintro a b (rfl | rfl) (rfl | rfl) <;> decide
theorem two_xor : ∀ a b : Int, (a = 0 ∨ a = -1) → (b = 0 ∨ b = -1) → Builtin.bitXor a b = 0 ∨ Builtin.bitXor a b = -1 := by
  rintro a b (rfl | rfl) (rfl | rfl) <;> decide
theorem fit_limbs {B : Int} (hB : 1 < B) {X : Int} {m : Nat} (h : (limbs B X.natAbs).length ≤ m) : Fit (B ^ m) X := by
  have h1 : (X.natAbs : Int) < B ^ m := Int.not_le.mp fun q => by
    have := limbs_len_gt hB q
    lia
  unfold Fit; omega
theorem row_snoc (B : Int) (hB : 1 < B) : ∀ (n : Nat) (X : Int), row B (n + 1) X = row B n X ++ [X / B ^ n % B]
  | 0, X => by simp [row]
  | n + 1, X => by
    rw [row, row_snoc B hB n, row, List.cons_append, pow_succ', Int.ediv_ediv_of_nonneg (by first | (with_reducible assumption) | (with_reducible exact Nat.le_trans (by assumption) (by decide)) | (with_reducible exact b0 (by assumption)) | (with_reducible exact b1 (by assumption)) | (with_reducible exact b2 (by assumption)) | (with_reducible exact Int.le_of_lt (by assumption)) | (with_reducible exact Nat.le_of_lt (by assumption)) | (with_reducible exact Int.natCast_nonneg _) | (with_reducible exact Int.le_of_lt (Int.pow_pos (by decide))) | (with_reducible exact Int.pow_pos (by decide)) | (with_reducible exact Nat.lt_of_lt_of_le (by decide) (by assumption)) | (with_reducible exact Int.ne_of_gt (by assumption)) | lia)]
theorem row_pos {B : Int} (hB : 1 < B) {X : Int} (h0 : 0 ≤ X) {size : Nat} (h : (limbs B X).length ≤ size) : limbs B X ++ List.replicate (size - (limbs B X).length) 0 = row B size X :=
  (row_limbs hB size X h0 (Int.not_le.mp fun q => by have := limbs_len_gt hB q; lia)).symm
theorem row_neg {B : Int} (hB : 1 < B) {X : Int} (h0 : X < 0) {size : Nat} (h : (limbs B (-1 - X)).length ≤ size) : (limbs B (-1 - X)).map (fun x => B - 1 - x) ++ List.replicate (size - (limbs B (-1 - X)).length) (B - 1) = row B size X := by
  have e := row_not hB size (-1 - X)
  rw [show -1 - (-1 - X) = X by lia, ← row_pos hB (by first | (with_reducible assumption) | (with_reducible exact Nat.le_trans (by assumption) (by decide)) | (with_reducible exact b0 (by assumption)) | (with_reducible exact b1 (by assumption)) | (with_reducible exact b2 (by assumption)) | (with_reducible exact Int.le_of_lt (by assumption)) | (with_reducible exact Nat.le_of_lt (by assumption)) | (with_reducible exact Int.natCast_nonneg _) | (with_reducible exact Int.le_of_lt (Int.pow_pos (by decide))) | (with_reducible exact Int.pow_pos (by decide)) | (with_reducible exact Nat.lt_of_lt_of_le (by decide) (by assumption)) | (with_reducible exact Int.ne_of_gt (by assumption)) | lia) h, List.map_append, List.map_replicate, Int.sub_zero] at e
  exact e.symm

theorem pop_split : ∀ (n : Nat) {X : Int}, 0 ≤ X → pop X = pop (X % 2 ^ n) + pop (X / 2 ^ n)
  | 0, X, _ => by simp [Int.emod_one, pop_zero]
  | n + 1, X, h => by
    have hM : (0 : Int) < 2 ^ n := Int.pow_pos (by decide)
    obtain ⟨a1, a2⟩ := half_mod hM X
    have ih := pop_split n (X := X / 2) (by first | (with_reducible assumption) | (with_reducible exact Nat.le_trans (by assumption) (by decide)) | (with_reducible exact b0 (by assumption)) | (with_reducible exact b1 (by assumption)) | (with_reducible exact b2 (by assumption)) | (with_reducible exact Int.le_of_lt (by assumption)) | (with_reducible exact Nat.le_of_lt (by assumption)) | (with_reducible exact Int.natCast_nonneg _) | (with_reducible exact Int.le_of_lt (Int.pow_pos (by decide))) | (with_reducible exact Int.pow_pos (by decide)) | (with_reducible exact Nat.lt_of_lt_of_le (by decide) (by assumption)) | (with_reducible exact Int.ne_of_gt (by assumption)) | lia)
    rw [Int.ediv_ediv_of_nonneg (by decide)] at ih
    rw [pow_succ', pop_step h, pop_step (x := X % (2 * 2 ^ n)) (Int.emod_nonneg _ (by first | (with_reducible assumption) | (with_reducible exact Nat.le_trans (by assumption) (by decide)) | (with_reducible exact b0 (by assumption)) | (with_reducible exact b1 (by assumption)) | (with_reducible exact b2 (by assumption)) | (with_reducible exact Int.le_of_lt (by assumption)) | (with_reducible exact Nat.le_of_lt (by assumption)) | (with_reducible exact Int.natCast_nonneg _) | (with_reducible exact Int.le_of_lt (Int.pow_pos (by decide))) | (with_reducible exact Int.pow_pos (by decide)) | (with_reducible exact Nat.lt_of_lt_of_le (by decide) (by assumption)) | (with_reducible exact Int.ne_of_gt (by assumption)) | lia)), a1, a2, ih]
    lia
theorem pop_limbs {n : Nat} (hB : 1 < (2 : Int) ^ n) : ∀ (m : Nat) {X : Int}, X.toNat < m → ((limbs (2 ^ n) X).map pop).sum = pop X
  | m + 1, X, h => by
    by_cases hX : 0 < X
    · have h1 := div_lt_self hB hX
      rw [limbs_pos hB hX, List.map_cons, List.sum_cons, pop_limbs hB m (X := X / 2 ^ n) (by first | (with_reducible assumption) | (with_reducible exact Nat.le_trans (by assumption) (by decide)) | (with_reducible exact b0 (by assumption)) | (with_reducible exact b1 (by assumption)) | (with_reducible exact b2 (by assumption)) | (with_reducible exact Int.le_of_lt (by assumption)) | (with_reducible exact Nat.le_of_lt (by assumption)) | (with_reducible exact Int.natCast_nonneg _) | (with_reducible exact Int.le_of_lt (Int.pow_pos (by decide))) | (with_reducible exact Int.pow_pos (by decide)) | (with_reducible exact Nat.lt_of_lt_of_le (by decide) (by assumption)) | (with_reducible exact Int.ne_of_gt (by assumption)) | lia), ← pop_split n (by first | (with_reducible assumption) | (with_reducible exact Nat.le_trans (by assumption) (by decide)) | (with_reducible exact b0 (by assumption)) | (with_reducible exact b1 (by assumption)) | (with_reducible exact b2 (by assumption)) | (with_reducible exact Int.le_of_lt (by assumption)) | (with_reducible exact Nat.le_of_lt (by assumption)) | (with_reducible exact Int.natCast_nonneg _) | (with_reducible exact Int.le_of_lt (Int.pow_pos (by decide))) | (with_reducible exact Int.pow_pos (by decide)) | (with_reducible exact Nat.lt_of_lt_of_le (by decide) (by assumption)) | (with_reducible exact Int.ne_of_gt (by assumption)) | lia)]
    · rw [limbs_nonpos (by first | (with_reducible assumption) | (with_reducible exact Nat.le_trans (by assumption) (by decide)) | (with_reducible exact b0 (by assumption)) | (with_reducible exact b1 (by assumption)) | (with_reducible exact b2 (by assumption)) | (with_reducible exact Int.le_of_lt (by assumption)) | (with_reducible exact Nat.le_of_lt (by assumption)) | (with_reducible exact Int.natCast_nonneg _) | (with_reducible exact Int.le_of_lt (Int.pow_pos (by decide))) | (with_reducible exact Int.pow_pos (by decide)) | (with_reducible exact Nat.lt_of_lt_of_le (by decide) (by assumption)) | (with_reducible exact Int.ne_of_gt (by assumption)) | lia), pop_neg (by first | (with_reducible assumption) | (with_reducible exact Nat.le_trans (by assumption) (by decide)) | (with_reducible exact b0 (by assumption)) | (with_reducible exact b1 (by assumption)) | (with_reducible exact b2 (by assumption)) | (with_reducible exact Int.le_of_lt (by assumption)) | (with_reducible exact Nat.le_of_lt (by assumption)) | (with_reducible exact Int.natCast_nonneg _) | (with_reducible exact Int.le_of_lt (Int.pow_pos (by decide))) | (with_reducible exact Int.pow_pos (by decide)) | (with_reducible exact Nat.lt_of_lt_of_le (by decide) (by assumption)) | (with_reducible exact Int.ne_of_gt (by assumption)) | lia)]; rfl
noncomputable def IsFirst (X : Int) (N : Nat) (b : Int) : Option Nat → Prop
  | some i => N ≤ i ∧ bitI X i = b ∧ ∀ j, N ≤ j → j < i → bitI X j ≠ b
  | none => ∀ j, N ≤ j → bitI X j ≠ b
theorem first_ex (X : Int) (N : Nat) (b : Int) : ∃ r, IsFirst X N b r := by
  have key : ∀ m i : Nat, i < N + m → N ≤ i → bitI X i = b → ∃ r, IsFirst X N b r := by
    intro m
    induction m with
    | zero => intro i h1 h2; lia
    | succ m ih =>
      intro i h1 h2 h3
      by_cases q : ∃ j, N ≤ j ∧ j < i ∧ bitI X j = b
      · obtain ⟨j, q1, q2, q3⟩ := q
        exact ih j (by first | (with_reducible assumption) | (with_reducible exact Nat.le_trans (by assumption) (by decide)) | (with_reducible exact b0 (by assumption)) | (with_reducible exact b1 (by assumption)) | (with_reducible exact b2 (by assumption)) | (with_reducible exact Int.le_of_lt (by assumption)) | (with_reducible exact Nat.le_of_lt (by assumption)) | (with_reducible exact Int.natCast_nonneg _) | (with_reducible exact Int.le_of_lt (Int.pow_pos (by decide))) | (with_reducible exact Int.pow_pos (by decide)) | (with_reducible exact Nat.lt_of_lt_of_le (by decide) (by assumption)) | (with_reducible exact Int.ne_of_gt (by assumption)) | lia) q1 q3
      · exact ⟨some i, h2, h3, fun j a1 a2 a3 => q ⟨j, a1, a2, a3⟩⟩
  by_cases q : ∃ i, N ≤ i ∧ bitI X i = b
  · obtain ⟨i, q1, q2⟩ := q
    exact key (i + 1) i (by first | (with_reducible assumption) | (with_reducible exact Nat.le_trans (by assumption) (by decide)) | (with_reducible exact b0 (by assumption)) | (with_reducible exact b1 (by assumption)) | (with_reducible exact b2 (by assumption)) | (with_reducible exact Int.le_of_lt (by assumption)) | (with_reducible exact Nat.le_of_lt (by assumption)) | (with_reducible exact Int.natCast_nonneg _) | (with_reducible exact Int.le_of_lt (Int.pow_pos (by decide))) | (with_reducible exact Int.pow_pos (by decide)) | (with_reducible exact Nat.lt_of_lt_of_le (by decide) (by assumption)) | (with_reducible exact Int.ne_of_gt (by assumption)) | lia) q1 q2
  · exact ⟨none, fun j a1 a2 => q ⟨j, a1, a2⟩⟩
theorem first_at {X : Int} {N i : Nat} {b : Int} {r : Option Nat} (hr : IsFirst X N b r) (h1 : N ≤ i) (h2 : bitI X i = b) (h3 : ∀ j, N ≤ j → j < i → bitI X j ≠ b) : r = some i := by
  cases r with
  | none => exact absurd h2 (hr i h1)
  | some k =>
    obtain ⟨a1, a2, a3⟩ := hr
    by_cases q : k < i
    · exact absurd a2 (h3 k a1 q)
    · by_cases q' : i < k
      · exact absurd h2 (a3 i h1 q')
      · rw [show k = i by lia]
theorem first_none {X : Int} {N : Nat} {b : Int} {r : Option Nat} (hr : IsFirst X N b r) (h : ∀ j, N ≤ j → bitI X j ≠ b) : r = none := by
  cases r with
  | none => rfl
  | some k => exact absurd hr.2.1 (h k hr.1)
theorem bit_sign {X : Int} {k i : Nat} (h : Fit (2 ^ k) X) (hi : k ≤ i) : bitI X i = if X < 0 then 1 else 0 := by
  have hM : (0 : Int) < 2 ^ i := Int.pow_pos (by decide)
  have h1 : Fit (2 ^ i) X := by
    have := pow_le_pow hi
    unfold Fit at *; lia
  have h2 := Int.emod_add_mul_ediv X (2 ^ i)
  have h3 := Int.emod_nonneg X (b := 2 ^ i) (by first | (with_reducible assumption) | (with_reducible exact Nat.le_trans (by assumption) (by decide)) | (with_reducible exact b0 (by assumption)) | (with_reducible exact b1 (by assumption)) | (with_reducible exact b2 (by assumption)) | (with_reducible exact Int.le_of_lt (by assumption)) | (with_reducible exact Nat.le_of_lt (by assumption)) | (with_reducible exact Int.natCast_nonneg _) | (with_reducible exact Int.le_of_lt (Int.pow_pos (by decide))) | (with_reducible exact Int.pow_pos (by decide)) | (with_reducible exact Nat.lt_of_lt_of_le (by decide) (by assumption)) | (with_reducible exact Int.ne_of_gt (by assumption)) | lia)
  have h4 := Int.emod_lt_of_pos X hM
  unfold bitI
  rcases (fit_div hM).mp h1 with e | e <;> rw [e] at h2 ⊢
  · rw [if_neg (by first | (with_reducible assumption) | (with_reducible exact Nat.le_trans (by assumption) (by decide)) | (with_reducible exact b0 (by assumption)) | (with_reducible exact b1 (by assumption)) | (with_reducible exact b2 (by assumption)) | (with_reducible exact Int.le_of_lt (by assumption)) | (with_reducible exact Nat.le_of_lt (by assumption)) | (with_reducible exact Int.natCast_nonneg _) | (with_reducible exact Int.le_of_lt (Int.pow_pos (by decide))) | (with_reducible exact Int.pow_pos (by decide)) | (with_reducible exact Nat.lt_of_lt_of_le (by decide) (by assumption)) | (with_reducible exact Int.ne_of_gt (by assumption)) | lia)]; decide
  · rw [if_pos (by first | (with_reducible assumption) | (with_reducible exact Nat.le_trans (by assumption) (by decide)) | (with_reducible exact b0 (by assumption)) | (with_reducible exact b1 (by assumption)) | (with_reducible exact b2 (by assumption)) | (with_reducible exact Int.le_of_lt (by assumption)) | (with_reducible exact Nat.le_of_lt (by assumption)) | (with_reducible exact Int.natCast_nonneg _) | (with_reducible exact Int.le_of_lt (Int.pow_pos (by decide))) | (with_reducible exact Int.pow_pos (by decide)) | (with_reducible exact Nat.lt_of_lt_of_le (by decide) (by assumption)) | (with_reducible exact Int.ne_of_gt (by assumption)) | lia)]; decide
theorem fit_bits (X : Int) : Fit (2 ^ Builtin.Int.intBits X) X := by
  have key : X.natAbs < 2 ^ Builtin.Int.intBits X := by
    unfold Builtin.Int.intBits
    by_cases h : X = 0
    · subst h; decide
    · rw [if_neg (by simpa using h)]; exact Nat.lt_log2_self
  have := kbt_cast (Builtin.Int.intBits X)
  unfold Fit; omega
theorem xor_sign {X Y : Int} (h : (X < 0) ↔ (Y < 0)) : 0 ≤ Builtin.bitXor X Y := by
  obtain ⟨k, hX, hY⟩ : ∃ k, Fit (2 ^ k) X ∧ Fit (2 ^ k) Y := by
    have a := fit_bits X
    have b := fit_bits Y
    have h1 := pow_le_pow (Nat.le_max_left (Builtin.Int.intBits X) (Builtin.Int.intBits Y))
    have h2 := pow_le_pow (Nat.le_max_right (Builtin.Int.intBits X) (Builtin.Int.intBits Y))
    exact ⟨max (Builtin.Int.intBits X) (Builtin.Int.intBits Y), by unfold Fit at *; lia, by unfold Fit at *; lia⟩
  have hM : (0 : Int) < 2 ^ k := Int.pow_pos (by decide)
  have e := (dig_xor k X Y).1
  have a1 := Int.emod_add_mul_ediv X (2 ^ k)
  have a2 := Int.emod_nonneg X (b := 2 ^ k) (by first | (with_reducible assumption) | (with_reducible exact Nat.le_trans (by assumption) (by decide)) | (with_reducible exact b0 (by assumption)) | (with_reducible exact b1 (by assumption)) | (with_reducible exact b2 (by assumption)) | (with_reducible exact Int.le_of_lt (by assumption)) | (with_reducible exact Nat.le_of_lt (by assumption)) | (with_reducible exact Int.natCast_nonneg _) | (with_reducible exact Int.le_of_lt (Int.pow_pos (by decide))) | (with_reducible exact Int.pow_pos (by decide)) | (with_reducible exact Nat.lt_of_lt_of_le (by decide) (by assumption)) | (with_reducible exact Int.ne_of_gt (by assumption)) | lia)
  have a3 := Int.emod_lt_of_pos X hM
  have b1 := Int.emod_add_mul_ediv Y (2 ^ k)
  have b2 := Int.emod_nonneg Y (b := 2 ^ k) (by first | (with_reducible assumption) | (with_reducible exact Nat.le_trans (by assumption) (by decide)) | (with_reducible exact b0 (by assumption)) | (with_reducible exact b1 (by assumption)) | (with_reducible exact b2 (by assumption)) | (with_reducible exact Int.le_of_lt (by assumption)) | (with_reducible exact Nat.le_of_lt (by assumption)) | (with_reducible exact Int.natCast_nonneg _) | (with_reducible exact Int.le_of_lt (Int.pow_pos (by decide))) | (with_reducible exact Int.pow_pos (by decide)) | (with_reducible exact Nat.lt_of_lt_of_le (by decide) (by assumption)) | (with_reducible exact Int.ne_of_gt (by assumption)) | lia)
  have b3 := Int.emod_lt_of_pos Y hM
  have c1 := Int.emod_add_mul_ediv (Builtin.bitXor X Y) (2 ^ k)
  have c2 := Int.emod_nonneg (Builtin.bitXor X Y) (b := 2 ^ k) (by first | (with_reducible assumption) | (with_reducible exact Nat.le_trans (by assumption) (by decide)) | (with_reducible exact b0 (by assumption)) | (with_reducible exact b1 (by assumption)) | (with_reducible exact b2 (by assumption)) | (with_reducible exact Int.le_of_lt (by assumption)) | (with_reducible exact Nat.le_of_lt (by assumption)) | (with_reducible exact Int.natCast_nonneg _) | (with_reducible exact Int.le_of_lt (Int.pow_pos (by decide))) | (with_reducible exact Int.pow_pos (by decide)) | (with_reducible exact Nat.lt_of_lt_of_le (by decide) (by assumption)) | (with_reducible exact Int.ne_of_gt (by assumption)) | lia)
  have e0 : Builtin.bitXor X Y / 2 ^ k = 0 := by
    rw [e]
    rcases (fit_div hM).mp hX with p | p <;> rcases (fit_div hM).mp hY with q | q <;> rw [p] at a1 ⊢ <;> rw [q] at b1 ⊢
    · decide
    · lia
    · lia
    · decide
  rw [e0] at c1; lia

inductive SV where
  | i (k : Int)
  | b (x : Bool)
  | n
  | l (ns : List Int)
  | g (neg : Bool) (ns : List Int)
  | gl (xs : List (Bool × List Int))
  | s (x : Str)
  | bx (a b : Addr) (ns : List Int) (x : Int)
noncomputable def SV.scalar : SV → Bool
  | .i _ | .b _ | .n | .s _ => true
  | _ => false
noncomputable abbrev tupOf (l : List Value) (n : Nat) : Obj := { cls := .type "tuple", data := .seq l.toArray n }
noncomputable def LAt (h : Heap) (a : Addr) (ns : List Int) : Prop := ∃ (vs : List Value) (n : Nat), h.get? a = some (listOf vs.toArray n) ∧ IntsAre vs ns
noncomputable def BoxN (h : Heap) (a b : Addr) (ns : List Int) (x : Int) : Prop := (∃ t, h.IsList a #[.ref b, .int x t]) ∧ LAt h b ns
noncomputable def GAt (h : Heap) (a : Addr) (neg : Bool) (ns : List Int) : Prop := ∃ la n, h.get? a = some (tupOf [.bool neg, .ref la] n) ∧ LAt h la ns
noncomputable def GsAre (h : Heap) : List Value → List (Bool × List Int) → Prop
  | [], [] => True
  | v :: vs, x :: xs => (∃ a, v = .ref a ∧ GAt h a x.1 x.2) ∧ GsAre h vs xs
  | _, _ => False
noncomputable def Den (h : Heap) (v : Value) : SV → Prop
  | .i k => ∃ t, v = .int k t
  | .b x => v = .bool x
  | .n => v = .none
  | .l ns => ∃ a, v = .ref a ∧ LAt h a ns
  | .g neg ns => ∃ a, v = .ref a ∧ GAt h a neg ns
  | .gl xs => ∃ a vs n, v = .ref a ∧ h.get? a = some (listOf vs.toArray n) ∧ GsAre h vs xs
  | .s x => ∃ t, v = .str x t
  | .bx a b ns x => v = .ref a ∧ BoxN h a b ns x
noncomputable def DenAll (h : Heap) : List Value → List SV → Prop
  | [], [] => True
  | v :: vs, x :: xs => Den h v x ∧ DenAll h vs xs
  | _, _ => False
noncomputable def Seqs (h h' : Heap) : Prop := ∀ a o xs n, h.get? a = some o → o.data = .seq xs n → h'.get? a = some o
theorem Seqs.of_stays {h h' : Heap} (k : h.StaysIn h') : Seqs h h' := fun a o _ _ e _ => k a o e
theorem LAt.mono {h h' : Heap} {a : Addr} {ns : List Int} (k : Seqs h h') (x : LAt h a ns) : LAt h' a ns :=
  let ⟨vs, n, e, hi⟩ := x; ⟨vs, n, k _ _ _ _ e rfl, hi⟩
theorem GAt.mono {h h' : Heap} {a : Addr} {b : Bool} {ns : List Int} (k : Seqs h h') (x : GAt h a b ns) : GAt h' a b ns :=
  let ⟨la, n, e, hl⟩ := x; ⟨la, n, k _ _ _ _ e rfl, hl.mono k⟩
theorem GsAre.mono {h h' : Heap} (k : Seqs h h') : ∀ {vs : List Value} {xs : List (Bool × List Int)}, GsAre h vs xs → GsAre h' vs xs
  | [], [], _ => trivial
  | _ :: _, _ :: _, ⟨⟨a, e, g⟩, r⟩ => ⟨⟨a, e, g.mono k⟩, r.mono k⟩
theorem Den.mono {h h' : Heap} {v : Value} (k : Seqs h h') {x : SV} (d : Den h v x) : Den h' v x := by
  cases x with
  | i _ => exact d
  | b _ => exact d
  | n => exact d
  | s _ => exact d
  | l _ => exact ex1 d fun a d => ⟨a, d.1, d.2.mono k⟩
  | g _ _ => exact ex1 d fun a d => ⟨a, d.1, d.2.mono k⟩
  | gl _ => exact ex3 d fun a vs n d => ⟨a, vs, n, d.1, k _ _ _ _ d.2.1 rfl, d.2.2.mono k⟩
  | bx _ _ _ _ => exact ⟨d.1, ex2 d.2.1 fun t o q => ex1 q.2.2 fun n hd => ⟨t, o, k _ _ _ _ q.1 hd, q.2.1, n, hd⟩, d.2.2.mono k⟩
theorem Den.keeps {h h' : Heap} {v : Value} {x : SV} (k : h.StaysIn h') (d : Den h v x) : Den h' v x := d.mono (.of_stays k)
theorem Den.scalar {h h' : Heap} {v : Value} : ∀ {x : SV}, x.scalar = true → Den h v x → Den h' v x
  | .i _, _, d => d
  | .b _, _, d => d
  | .n, _, d => d
  | .s _, _, d => d
theorem DenAll.mono {h h' : Heap} (k : Seqs h h') : ∀ {vs : List Value} {xs : List SV}, DenAll h vs xs → DenAll h' vs xs
  | [], [], _ => trivial
  | _ :: _, _ :: _, ⟨d, r⟩ => ⟨d.mono k, r.mono k⟩
theorem denN {h : Heap} {vs : List Value} (d : DenAll h vs []) : vs = [] := by cases vs; rfl; exact d.elim
theorem denC {h : Heap} {x : SV} {xs : List SV} {vs : List Value} (d : DenAll h vs (x :: xs)) : ∃ v r, vs = v :: r ∧ Den h v x ∧ DenAll h r xs := by cases vs; exact d.elim; exact ⟨_, _, rfl, d⟩
theorem den1 {h : Heap} {x : SV} {vs : List Value} (d : DenAll h vs [x]) : ∃ v, vs = [v] ∧ Den h v x := by
  obtain ⟨v, r, rfl, d1, d2⟩ := denC d
  exact ⟨v, by rw [denN d2], d1⟩
theorem den2 {h : Heap} {x y : SV} {vs : List Value} (d : DenAll h vs [x, y]) : ∃ v u, vs = [v, u] ∧ Den h v x ∧ Den h u y := by
  obtain ⟨v, r, rfl, d1, d2⟩ := denC d
  obtain ⟨u, rfl, d3⟩ := den1 d2
  exact ⟨v, u, rfl, d1, d3⟩
theorem den3 {h : Heap} {x y z : SV} {vs : List Value} (d : DenAll h vs [x, y, z]) : ∃ v u w, vs = [v, u, w] ∧ Den h v x ∧ Den h u y ∧ Den h w z := by
  obtain ⟨v, r, rfl, d1, d2⟩ := denC d
  obtain ⟨u, w, rfl, d3⟩ := den2 d2
  exact ⟨v, u, w, rfl, d1, d3⟩
theorem none_at {h : Heap} {a b : Addr} {o : Obj} {P : Prop} (ha : h.get? a = none) (q : b = a) (e : h.get? b = some o) : P := by subst q; rw [ha] at e; cases e
theorem none_old {h h' : Heap} {a : Addr} (k : ∀ b o, h.get? b = some o → h'.get? b = some o) (e : h'.get? a = none) : h.get? a = none := by
  cases q : h.get? a with
  | none => rfl
  | some o => exact none_at e rfl (k _ _ q)
theorem ns_ne {h : Heap} {L a : Addr} {m : Str → Option Value} {o : Obj} (hn : h.Ns L m) (e : h.get? a = some o) (hd : ∀ es ep, o.data ≠ .dict es ep) : a ≠ L := fun q => by
  obtain ⟨oL, es, ep, eL, dL, _⟩ := hn
  rw [← q, e] at eL; cases eL
  exact hd _ _ dL
theorem nd_cell {o : Obj} {v : Option Value} (r : o.data = .cell v) : ∀ es ep, o.data ≠ .dict es ep := fun _ _ q => by rw [r] at q; cases q
theorem nd_seq {o : Obj} {xs : Array Value} {n : Nat} (r : o.data = .seq xs n) : ∀ es ep, o.data ≠ .dict es ep := fun _ _ q => by rw [r] at q; cases q
theorem fresh_size (h : Heap) : h.get? h.objs.size = none := by
  cases q : h.get? h.objs.size with
  | none => rfl
  | some o => exact absurd (Heap.lt_size q) (Nat.lt_irrefl _)
theorem fresh_after {h h' : Heap} (st : h.StaysIn h') : h.get? h'.objs.size = none := none_old st (fresh_size h')
theorem strans {h h' h'' : Heap} (a : h.StaysIn h') (b : h'.StaysIn h'') : h.StaysIn h'' := fun x o e => b x o (a x o e)
theorem srefl (h : Heap) : h.StaysIn h := fun _ _ e => e

noncomputable def St (s : Shared) (h : Heap) (tk : Nat) : Shared := { s with heap := h, toks := tk }
structure Know where
  st : Bool
  l : List (Str × SV)
  fd : Option (Str × Addr × List Int)
structure Cx where
  w : World
  mean : ExcName → Option Value
  mg : Str → Option Value
  mb : Str → Option Value
  h₀ : Heap
  L : Addr
  dp : Nat
  un : Nat
  gd : Option (List Code)
  fr : List Env
  s : Shared
  cl : List (Str × Addr)
noncomputable abbrev Cx.A (c : Cx) : Around := AA c.dp c.un c.gd c.fr
structure Cx.Ok (c : Cx) (D : Nat) : Prop where
  here : Here c.mean c.mg c.mb c.h₀
  dp : c.dp + D ≤ 900
  un : c.un + 20 * D ≤ 9000
noncomputable abbrev Cx.wp {α : Type} (c : Cx) (t : Sem α) (Q : α → Shared → Prop) (h : Heap) (tk : Nat) : Prop := wpAny (model prg c.w) c.A t Q (fun _ _ => False) (St c.s h tk)
noncomputable def Held (c : Cx) (m : Str → Option Value) (h : Heap) (x : Str) (v : Value) : Prop := match c.cl.lookup x with
  | none => m x = some v
  | some a => h.IsCell a (some v)
structure KnM (c : Cx) (k : Know) (h : Heap) (m : Str → Option Value) : Prop where
  F : Fr c.h₀ c.L h m
  l : ∀ x sv, k.l.lookup x = some sv → ∃ v, Held c m h x v ∧ Den (if k.st then c.h₀ else h) v sv
  fd : ∀ x a ns, k.fd = some (x, a, ns) → m x = some (.ref a) ∧ c.h₀.get? a = none ∧ c.cl = [] ∧ k.st = true ∧ LAt h a ns
  cl : ∀ p ∈ c.cl, c.h₀.get? p.2 = none ∧ ∃ v, h.IsCell p.2 v
noncomputable def Kn (c : Cx) (k : Know) (h : Heap) : Prop := ∃ m, KnM c k h m
theorem KnM.keeps {c : Cx} {k : Know} {h h' : Heap} {m : Str → Option Value} (K : KnM c k h m) (st : h.StaysIn h') : KnM c k h' m where
  F := ⟨K.F.ns.keeps st, fun b o e => st b o (K.F.keep b o e), K.F.above⟩
  l := fun x sv e => by
    obtain ⟨v, hv, d⟩ := K.l x sv e
    refine ⟨v, ?_, ?_⟩
    · unfold Held at hv ⊢
      split at hv
      · exact hv
      · obtain ⟨o, e, r⟩ := hv; exact ⟨o, st _ _ e, r⟩
    · cases hs : k.st with
      | true => rw [hs] at d; exact d
      | false => rw [hs] at d; exact d.keeps st
  fd := fun x a ns e => let ⟨h1, h2, h3, h4, h5⟩ := K.fd x a ns e; ⟨h1, h2, h3, h4, h5.mono (.of_stays st)⟩
  cl := fun p hp => let ⟨h1, v, o, e, r⟩ := K.cl p hp; ⟨h1, v, o, st _ _ e, r⟩
theorem Kn.keeps {c : Cx} {k : Know} {h h' : Heap} (K : Kn c k h) (st : h.StaysIn h') : Kn c k h' := let ⟨m, K⟩ := K; ⟨m, K.keeps st⟩
theorem KnM.den {c : Cx} {k : Know} {h : Heap} {m : Str → Option Value} (K : KnM c k h m) {x : Str} {sv : SV} (e : k.l.lookup x = some sv) : ∃ v, Held c m h x v ∧ Den h v sv := by
  obtain ⟨v, hv, d⟩ := K.l _ _ e
  refine ⟨v, hv, ?_⟩
  cases hs : k.st with
  | true => rw [hs] at d; exact d.keeps K.F.keep
  | false => rw [hs] at d; exact d
theorem Cx.Ok.hereAt {c : Cx} {D : Nat} (o : c.Ok D) {k : Know} {h : Heap} (K : Kn c k h) : Here c.mean c.mg c.mb h := let ⟨_, K⟩ := K; o.here.keeps K.F.keep

noncomputable def J (c : Cx) (env : Env) (k : Know) (e : Expr) (sv : SV) : Prop :=
  ∀ h tk (Q : Value → Shared → Prop), Kn c k h → (∀ v h' tk', h.StaysIn h' → Den h' v sv → Q v (St c.s h' tk')) → c.wp (eval e env) Q h tk
noncomputable def JT (c : Cx) (env : Env) (k : Know) (e : Expr) (b : Bool) : Prop :=
  ∀ h tk (Q : Bool → Shared → Prop), Kn c k h → (∀ h' tk', h.StaysIn h' → Q b (St c.s h' tk')) → c.wp (isTrue e env (eval e env)) Q h tk
noncomputable def Js (c : Cx) (env : Env) (k : Know) (es : List Expr) (svs : List SV) : Prop :=
  ∀ pos h tk (Q : List Value → Shared → Prop), Kn c k h → (∀ vs h' tk', h.StaysIn h' → DenAll h' vs svs → Q vs (St c.s h' tk')) → c.wp (spliced (backTo pos (starEach es env))) Q h tk
structure EO (c : Cx) (env : Env) : Prop where
  loc : env.locals = c.L
  kind : env.scope.kind = .function
  cells : env.cells = c.cl
  glob : env.globals = mainGlobals
  bui : env.builtins = builtinsNs
section
variable {c : Cx} {env : Env} {k : Know}
theorem Js_nil : Js c env k [] [] := fun _ h tk _ _ hQ => spliced_nil (hQ [] h tk (srefl h) trivial)
theorem Js_cons {e : Expr} {es : List Expr} {sv : SV} {svs : List SV} (h1 : J c env k e sv) (h2 : Js c env k es svs) (hs : starEach (e :: es) env = (false, eval e env) :: starEach es env := by rfl) : Js c env k (e :: es) (sv :: svs) := by
  intro pos h tk Q K hQ
  rw [hs]
  refine spliced_cons (h1 h tk _ K fun v h' tk' st d => ?_)
  exact h2 pos h' tk' _ (K.keeps st) fun vs h'' tk'' st' ds => hQ _ _ _ (strans st st') ⟨d.keeps st', ds⟩
theorem J_int {i : Int} {n : Nat} {pos : Pos} : J c env k (.Constant (.int i) n pos) (.i i) :=
  fun h tk _ _ hQ => wpAny_Constant_int (hQ _ h (tk + 1) (srefl h) ⟨_, rfl⟩)
theorem J_bool {x : Bool} {n : Nat} {pos : Pos} : J c env k (.Constant (.bool x) n pos) (.b x) :=
  fun h tk _ _ hQ => Constant_bool (hQ _ h tk (srefl h) rfl)
theorem J_none {n : Nat} {pos : Pos} : J c env k (.Constant .none n pos) .n :=
  fun h tk _ _ hQ => Constant_none (hQ _ h tk (srefl h) rfl)
theorem J_name {x : Str} {pos : Pos} {sv : SV} (eo : EO c env) (e : k.l.lookup x = some sv) (hx : env.kindOf x = some .local := by rfl) (hc : c.cl.lookup x = none := by rfl) (hd : (x == ("__debug__" : Str)) = false := by decide) : J c env k (.Name x pos) sv := by
  intro h tk Q ⟨m, K⟩ hQ
  obtain ⟨v, hv, d⟩ := K.den e
  unfold Held at hv
  rw [hc] at hv
  exact wpAny_Name (wpAny_loadName_local eo.kind hx (by rw [eo.loc]; exact K.F.ns) hv (hQ v h tk (srefl h) d)) hd
theorem J_cell {x : Str} {pos : Pos} {sv : SV} {a : Addr} (eo : EO c env) (e : k.l.lookup x = some sv) (hx : env.kindOf x = some .cell := by rfl) (hc : c.cl.lookup x = some a := by rfl) (hd : (x == ("__debug__" : Str)) = false := by decide) : J c env k (.Name x pos) sv := by
  intro h tk Q ⟨m, K⟩ hQ
  obtain ⟨v, hv, d⟩ := K.den e
  unfold Held at hv
  rw [hc] at hv
  exact wpAny_Name (wpAny_loadName_cell eo.kind hx (by rw [eo.cells]; exact hc) hv (hQ v h tk (srefl h) d)) hd
theorem J_found {x : Str} {pos : Pos} {a : Addr} {ns : List Int} (eo : EO c env) (e : k.fd = some (x, a, ns)) (hx : env.kindOf x = some .local := by rfl) (hd : (x == ("__debug__" : Str)) = false := by decide) : J c env k (.Name x pos) (.l ns) := by
  intro h tk Q ⟨m, K⟩ hQ
  obtain ⟨h1, _, _, _, h5⟩ := K.fd _ _ _ e
  exact wpAny_Name (wpAny_loadName_local eo.kind hx (by rw [eo.loc]; exact K.F.ns) h1 (hQ _ h tk (srefl h) ⟨a, rfl, h5⟩)) hd
noncomputable def Op (c : Cx) (t : Value → Value → Sem Value) (x y r : SV) : Prop :=
  ∀ h tk (Q : Value → Shared → Prop) v u, Den h v x → Den h u y → (∀ v' h' tk', h.StaysIn h' → Den h' v' r → Q v' (St c.s h' tk')) → c.wp (t v u) Q h tk
theorem J_bin {e1 e2 : Expr} {op : Operator} {pos : Pos} {x y r : SV} (h1 : J c env k e1 x) (h2 : J c env k e2 y) (ho : Op c (binaryOp op) x y r) : J c env k (.BinOp e1 op e2 pos) r := by
  intro h tk Q K hQ
  refine wpAny_BinOp (h1 h tk _ K fun v h' tk' st d => h2 h' tk' _ (K.keeps st) fun u h'' tk'' st' d' => ?_)
  exact ho h'' tk'' Q v u (d.keeps st') d' fun v' h3 tk3 st3 d3 => hQ v' h3 tk3 (strans (strans st st') st3) d3
theorem J_cmp {e1 e2 : Expr} {op : CmpOp} {pos : Pos} {x y r : SV} (h1 : J c env k e1 x) (h2 : J c env k e2 y) (ho : Op c (compareOp op) x y r) (hm : behindInMarks op e2 = false := by with_unfolding_all rfl) : J c env k (.Compare e1 [op] [e2] pos) r := by
  intro h tk Q K hQ
  refine wpAny_Compare1 (h1 h tk _ K fun v h' tk' st d => h2 h' tk' _ (K.keeps st) fun u h'' tk'' st' d' => ?_) hm
  exact ho h'' tk'' Q v u (d.keeps st') d' fun v' h3 tk3 st3 d3 => hQ v' h3 tk3 (strans (strans st st') st3) d3
theorem JT_cmp {e1 e2 : Expr} {op : CmpOp} {pos : Pos} {x y : SV} {b : Bool} (h1 : J c env k e1 x) (h2 : J c env k e2 y) (ho : Op c (compareOp op) x y (.b b)) (hm : behindInMarks op e2 = false := by with_unfolding_all rfl) : JT c env k (.Compare e1 [op] [e2] pos) b := by
  intro h tk Q K hQ
  refine wpAny_isTrue_Compare1 (h1 h tk _ K fun v h' tk' st d => h2 h' tk' _ (K.keeps st) fun u h'' tk'' st' d' => ?_) hm
  refine ho h'' tk'' _ v u (d.keeps st') d' fun v' h3 tk3 st3 d3 => ?_
  cases d3
  exact wpAny_truthy_bool (hQ h3 tk3 (strans (strans st st') st3))
theorem JT_plain {e : Expr} {b : Bool} (h1 : J c env k e (.b b)) (he : ∀ whole, isTrue e env whole = (do let v ← whole; standAt e.pos; holding [v] (truthy v)) := by intro _; rfl) : JT c env k e b := by
  intro h tk Q K hQ
  refine isTrue_plain (h1 h tk _ K fun v h' tk' st d => ?_) (he _)
  cases d
  exact wpAny_truthy_bool (hQ h' tk' st)
theorem JT_not {e : Expr} {pos : Pos} {b : Bool} (h1 : JT c env k e b) : JT c env k (.UnaryOp .Not e pos) (!b) :=
  fun h tk _ K hQ => isTrue_not (h1 h tk _ K fun h' tk' st => hQ h' tk' st)
theorem JT_and {e1 e2 : Expr} {pos : Pos} {a b : Bool} (h1 : JT c env k e1 a) (h2 : a = true → JT c env k e2 b) (hab : a = false → b = false) : JT c env k (.BoolOp .And [e1, e2] pos) b := by
  intro h tk Q K hQ
  refine isTrue_and (h1 h tk _ K fun h' tk' st => ?_)
  cases a with
  | false => rw [hab rfl] at hQ; exact hQ h' tk' st
  | true =>
    refine isTrue_and (h2 rfl h' tk' _ (K.keeps st) fun h'' tk'' st' => ?_)
    cases b with
    | false => exact hQ _ _ (strans st st')
    | true => exact isTrue_and_nil (hQ _ _ (strans st st'))
theorem JT_or {e1 e2 : Expr} {pos : Pos} {a b : Bool} (h1 : JT c env k e1 a) (h2 : a = false → JT c env k e2 b) (hab : a = true → b = true) : JT c env k (.BoolOp .Or [e1, e2] pos) b := by
  intro h tk Q K hQ
  refine isTrue_or (h1 h tk _ K fun h' tk' st => ?_)
  cases a with
  | true => rw [hab rfl] at hQ; exact hQ h' tk' st
  | false =>
    refine isTrue_or (h2 rfl h' tk' _ (K.keeps st) fun h'' tk'' st' => ?_)
    cases b with
    | true => exact hQ _ _ (strans st st')
    | false => exact isTrue_or_nil (hQ _ _ (strans st st'))
theorem J_if {t e1 e2 : Expr} {pos : Pos} {b : Bool} {r : SV} (h0 : JT c env k t b) (h1 : b = true → J c env k e1 r) (h2 : b = false → J c env k e2 r) : J c env k (.IfExp t e1 e2 pos) r := by
  intro h tk Q K hQ
  refine wpAny_IfExp (h0 h tk _ K fun h' tk' st => ?_)
  cases b with
  | true => exact h1 rfl h' tk' _ (K.keeps st) fun v h'' tk'' st' d => hQ v _ _ (strans st st') d
  | false => exact h2 rfl h' tk' _ (K.keeps st) fun v h'' tk'' st' d => hQ v _ _ (strans st st') d
theorem J_cast {e : Expr} {x y : SV} (h : J c env k e x) (e' : x = y) : J c env k e y := e' ▸ h
theorem JT_cast {e : Expr} {x y : Bool} (h : JT c env k e x) (e' : x = y) : JT c env k e y := e' ▸ h
end
section
variable {c : Cx}
theorem op_add {a b : Int} : Op c (binaryOp .Add) (.i a) (.i b) (.i (a + b)) := by
  rintro h tk Q v u ⟨t, rfl⟩ ⟨t', rfl⟩ hQ; exact add_int (hQ _ h (tk + 1) (srefl h) ⟨_, rfl⟩)
theorem op_sub {a b : Int} : Op c (binaryOp .Sub) (.i a) (.i b) (.i (a - b)) := by
  rintro h tk Q v u ⟨t, rfl⟩ ⟨t', rfl⟩ hQ; exact sub_int (hQ _ h (tk + 1) (srefl h) ⟨_, rfl⟩)
theorem op_and {a b : Int} : Op c (binaryOp .BitAnd) (.i a) (.i b) (.i (Builtin.bitAnd a b)) := by
  rintro h tk Q v u ⟨t, rfl⟩ ⟨t', rfl⟩ hQ; exact and_int (hQ _ h (tk + 1) (srefl h) ⟨_, rfl⟩)
theorem op_or {a b : Int} : Op c (binaryOp .BitOr) (.i a) (.i b) (.i (Builtin.bitOr a b)) := by
  rintro h tk Q v u ⟨t, rfl⟩ ⟨t', rfl⟩ hQ; exact or_int (hQ _ h (tk + 1) (srefl h) ⟨_, rfl⟩)
theorem op_xor {a b : Int} : Op c (binaryOp .BitXor) (.i a) (.i b) (.i (Builtin.bitXor a b)) := by
  rintro h tk Q v u ⟨t, rfl⟩ ⟨t', rfl⟩ hQ; exact xor_int (hQ _ h (tk + 1) (srefl h) ⟨_, rfl⟩)
theorem op_shr {a b : Int} (hb : 0 ≤ b) : Op c (binaryOp .RShift) (.i a) (.i b) (.i (a.fdiv (2 ^ b.toNat))) := by
  rintro h tk Q v u ⟨t, rfl⟩ ⟨t', rfl⟩ hQ; exact rshift_int hb (hQ _ h (tk + 1) (srefl h) ⟨_, rfl⟩)
theorem op_shl {a b : Int} (hb : 0 ≤ b) (hs : (Builtin.Int.intBits a : Int) + b ≤ 2 ^ 27) : Op c (binaryOp .LShift) (.i a) (.i b) (.i (a * 2 ^ b.toNat)) := by
  rintro h tk Q v u ⟨t, rfl⟩ ⟨t', rfl⟩ hQ; exact lshift_int hb hs (hQ _ h (tk + 1) (srefl h) ⟨_, rfl⟩)
theorem op_mod {a b : Int} (hb : b ≠ 0) : Op c (binaryOp .Mod) (.i a) (.i b) (.i (a.fmod b)) := by
  rintro h tk Q v u ⟨t, rfl⟩ ⟨t', rfl⟩ hQ; exact mod_int' hb (hQ _ h (tk + 1) (srefl h) ⟨_, rfl⟩)
theorem op_div {a b : Int} (hb : b ≠ 0) (hp : Builtin.divisionGoesByPylong a b = false) : Op c (binaryOp .FloorDiv) (.i a) (.i b) (.i (a.fdiv b)) := by
  rintro h tk Q v u ⟨t, rfl⟩ ⟨t', rfl⟩ hQ; exact floordiv_int hb (hQ _ h (tk + 1) (srefl h) ⟨_, rfl⟩) (.inl hp)
theorem op_lt {a b : Int} : Op c (compareOp .Lt) (.i a) (.i b) (.b (decide (a < b))) := by
  rintro h tk Q v u ⟨t, rfl⟩ ⟨t', rfl⟩ hQ; exact lt_int (hQ _ h tk (srefl h) rfl)
theorem op_gt {a b : Int} : Op c (compareOp .Gt) (.i a) (.i b) (.b (decide (b < a))) := by
  rintro h tk Q v u ⟨t, rfl⟩ ⟨t', rfl⟩ hQ; exact gt_int (hQ _ h tk (srefl h) rfl)
theorem op_eq {a b : Int} : Op c (compareOp .Eq) (.i a) (.i b) (.b (decide (a = b))) := by
  rintro h tk Q v u ⟨t, rfl⟩ ⟨t', rfl⟩ hQ; exact eq_int (hQ _ h tk (srefl h) rfl)
theorem op_ne {a b : Int} : Op c (compareOp .NotEq) (.i a) (.i b) (.b (a != b)) := by
  rintro h tk Q v u ⟨t, rfl⟩ ⟨t', rfl⟩ hQ; exact ne_int (hQ _ h tk (srefl h) rfl)
end

noncomputable def FncR (w : World) (mean : ExcName → Option Value) (mg mb : Str → Option Value) (D : Nat) (x : Str) (svs : List SV) (R : Heap → Heap → Value → Prop) : Prop :=
  ∀ (f : Addr) (dp un : Nat) (gd : Option (List Code)) (fr : List Env) (s : Shared) (vals : List Value) (Q : Value → Shared → Prop), mg x = some (.ref f) → Here mean mg mb s.heap → dp + D ≤ 900 → un + 20 * D ≤ 9000 → DenAll s.heap vals svs →
    (∀ v h' tk', s.heap.StaysIn h' → R s.heap h' v → Q v (St s h' tk')) → wpAny (model prg w) (AA dp un gd fr) (call (.ref f) vals) Q (fun _ _ => False) s
noncomputable abbrev Fnc (w : World) (mean : ExcName → Option Value) (mg mb : Str → Option Value) (D : Nat) (x : Str) (svs : List SV) (sv : SV) : Prop := FncR w mean mg mb D x svs fun _ h v => Den h v sv
noncomputable abbrev Cx.fnc (c : Cx) (D : Nat) (x : Str) (svs : List SV) (sv : SV) : Prop := Fnc c.w c.mean c.mg c.mb D x svs sv
noncomputable def JR (c : Cx) (env : Env) (k : Know) (e : Expr) (R : Heap → Heap → Value → Prop) : Prop :=
  ∀ h tk (Q : Value → Shared → Prop), Kn c k h → (∀ v h' tk', h.StaysIn h' → R h h' v → Q v (St c.s h' tk')) → c.wp (eval e env) Q h tk

section
variable {c : Cx} {env : Env} {k : Know} {D : Nat}
theorem name_bui {x : Str} {pos : Pos} {v : Value} {h : Heap} {tk : Nat} {Q : Value → Shared → Prop} (eo : EO c env) (o : c.Ok D) (K : Kn c k h) (hf : Free x) (hv : bootBuiltins x = some v) (hn : x ≠ "__name__") (hx : env.kindOf x = some .globalImplicit) (hd : (x == ("__debug__" : Str)) = false)
    (hQ : Q v (St c.s h tk)) : c.wp (eval (.Name x pos) env) Q h tk := by
  have H := o.hereAt K
  exact Name_function_global eo.kind hx (loadGlobal_builtin (env := env) (by rw [eo.glob]; exact H.T.g) (H.free hf) (by rw [eo.bui]; exact H.T.b) (((topRead_of H.T).builtins x hn).trans hv) hQ) hd
theorem J_callR {x : Str} {p pos : Pos} {e : Expr} {es : List Expr} {svs : List SV} {R : Heap → Heap → Value → Prop} {D' : Nat} (hR : ∀ hb hb' h v, hb.StaysIn hb' → R hb' h v → R hb h v) (eo : EO c env) (o : c.Ok D) (hf : Stands x) (ha : Js c env k (e :: es) svs) (C : FncR c.w c.mean c.mg c.mb D' x svs R) (hD : D' ≤ D)
    (hx : env.kindOf x = some .globalImplicit := by rfl) (hd : (x == ("__debug__" : Str)) = false := by decide)
    (he : starEach (e :: es) env = (false, eval e env) :: starEach es env := by rfl) :
    JR c env k (.Call (.Name x p) (e :: es) [] pos) R := by
  intro h tk Q K hQ
  have H := o.hereAt K
  obtain ⟨f, ob, fd, h1, h2, h3⟩ := H.stands hf
  refine Call_Name rfl (Name_function_global eo.kind hx (loadGlobal_global (env := env) (by rw [eo.glob]; exact H.T.g) h1 ?_) hd)
  refine callWith_def h3 (ha pos h tk _ K fun vs h' tk' st ds => ⟨st _ _ h2, ?_⟩) he
  have od := o.dp
  have ou := o.un
  exact C f c.dp c.un c.gd c.fr (St c.s h' tk') vs Q h1 (H.keeps st) (by first | (with_reducible assumption) | (with_reducible exact Nat.le_trans (by assumption) (by decide)) | (with_reducible exact b0 (by assumption)) | (with_reducible exact b1 (by assumption)) | (with_reducible exact b2 (by assumption)) | (with_reducible exact Int.le_of_lt (by assumption)) | (with_reducible exact Nat.le_of_lt (by assumption)) | (with_reducible exact Int.natCast_nonneg _) | (with_reducible exact Int.le_of_lt (Int.pow_pos (by decide))) | (with_reducible exact Int.pow_pos (by decide)) | (with_reducible exact Nat.lt_of_lt_of_le (by decide) (by assumption)) | (with_reducible exact Int.ne_of_gt (by assumption)) | lia | omega) (by first | (with_reducible assumption) | (with_reducible exact Nat.le_trans (by assumption) (by decide)) | (with_reducible exact b0 (by assumption)) | (with_reducible exact b1 (by assumption)) | (with_reducible exact b2 (by assumption)) | (with_reducible exact Int.le_of_lt (by assumption)) | (with_reducible exact Nat.le_of_lt (by assumption)) | (with_reducible exact Int.natCast_nonneg _) | (with_reducible exact Int.le_of_lt (Int.pow_pos (by decide))) | (with_reducible exact Int.pow_pos (by decide)) | (with_reducible exact Nat.lt_of_lt_of_le (by decide) (by assumption)) | (with_reducible exact Int.ne_of_gt (by assumption)) | lia | omega) ds fun v h'' tk'' st' d => hQ v h'' tk'' (strans st st') (hR _ _ _ _ st d)
theorem J_call {x : Str} {p pos : Pos} {e : Expr} {es : List Expr} {svs : List SV} {sv : SV} {D' : Nat} (eo : EO c env) (o : c.Ok D) (hf : Stands x) (ha : Js c env k (e :: es) svs) (C : c.fnc D' x svs sv) (hD : D' ≤ D)
    (hx : env.kindOf x = some .globalImplicit := by rfl) (hd : (x == ("__debug__" : Str)) = false := by decide)
    (he : starEach (e :: es) env = (false, eval e env) :: starEach es env := by rfl) :
    J c env k (.Call (.Name x p) (e :: es) [] pos) sv := J_callR (fun _ _ _ _ _ d => d) eo o hf ha C hD hx hd he
theorem J_bui {x : Str} {p pos : Pos} {id : String} {e : Expr} {es : List Expr} {svs : List SV} {sv : SV} (eo : EO c env) (o : c.Ok D) (hf : Free x) (hv : bootBuiltins x = some (.builtin id)) (ha : Js c env k (e :: es) svs)
    (C : ∀ (h : Heap) (tk : Nat) (vs : List Value) (Q : Value → Shared → Prop), Kn c k h → DenAll h vs svs → (∀ v h' tk', h.StaysIn h' → Den h' v sv → Q v (St c.s h' tk')) → c.wp (call (.builtin id) vs) Q h tk)
    (hn : x ≠ "__name__" := by decide) (hx : env.kindOf x = some .globalImplicit := by rfl) (hd : (x == ("__debug__" : Str)) = false := by decide)
    (he : starEach (e :: es) env = (false, eval e env) :: starEach es env := by rfl) (hplain : (backTo pos (starEach es env)).any (·.1) = false := by rfl) :
    J c env k (.Call (.Name x p) (e :: es) [] pos) sv := by
  intro h tk Q K hQ
  refine Call_Name rfl (name_bui eo o K hf hv hn hx hd ?_)
  refine callWith_method1 (first := []) (ha pos h tk _ K fun vs h' tk' st ds => ?_) he hplain
  exact C h' tk' vs Q (K.keeps st) ds fun v h'' tk'' st' d => hQ v h'' tk'' (strans st st') d
theorem J_len {p pos : Pos} {e : Expr} {ns : List Int} (eo : EO c env) (o : c.Ok D) (hf : Free "len") (h : J c env k e (.l ns)) (hlen : ns.length ≤ 100000) (hs : starEach [e] env = (false, eval e env) :: starEach [] env := by rfl) (hx : env.kindOf "len" = some .globalImplicit := by rfl) :
    J c env k (.Call (.Name "len" p) [e] [] pos) (.i ns.length) := by
  refine J_bui eo o hf boot_len (Js_cons h Js_nil hs) (fun h tk vs Q K ds hQ => ?_) (by decide) hx (by decide) hs rfl
  obtain ⟨v, rfl, a, e, us, n, ho, hi⟩ := den1 ds
  subst e
  have hl : (St c.s h tk).heap.IsList a us.toArray := ⟨_, ho, rfl, n, rfl⟩
  have e2 : us.toArray.size = ns.length := by rw [List.size_toArray, hi.length]
  exact len_list hl (by rw [e2]; (first | lia | omega)) (by rw [e2]; exact hQ _ h _ (srefl h) ⟨_, rfl⟩)
theorem J_item {e1 e2 : Expr} {pos : Pos} {ns : List Int} {i : Int} (h1 : J c env k e1 (.l ns)) (h2 : J c env k e2 (.i i)) (h0 : 0 ≤ i) (hlt : i < ns.length) (hlen : ns.length ≤ 100000)
    (hs : ∀ a u, subscripted e2 false (.ref a) (.int i u) = operate [.ref a, .int i u] (getItem (.ref a) (.int i u)) := by intro _ _; with_unfolding_all rfl) (hg : ∀ a r, letTemporaryGo e1 (.ref a) r = pure () := by intro _ _; with_unfolding_all rfl) :
    J c env k (.Subscript e1 e2 pos) (.i (ns.getD i.toNat 0)) := by
  intro h tk Q K hQ
  refine Subscript_ (h1 h tk _ K fun v h' tk' st d => h2 h' tk' _ (K.keeps st) fun u h'' tk'' st' d' => ?_)
  obtain ⟨t, rfl⟩ := d'
  obtain ⟨a, rfl, us, n, ho, hi⟩ := Den.keeps st' d
  have hl : (St c.s h'' tk'').heap.IsList a us.toArray := ⟨_, ho, rfl, n, rfl⟩
  have hb : i.toNat < ns.length := by (first | lia | omega)
  obtain ⟨t', hx⟩ := hi.get i.toNat ns[i.toNat] (by simp [hb])
  refine item_list hl h0 (by first | (with_reducible assumption) | (with_reducible exact Nat.le_trans (by assumption) (by decide)) | (with_reducible exact b0 (by assumption)) | (with_reducible exact b1 (by assumption)) | (with_reducible exact b2 (by assumption)) | (with_reducible exact Int.le_of_lt (by assumption)) | (with_reducible exact Nat.le_of_lt (by assumption)) | (with_reducible exact Int.natCast_nonneg _) | (with_reducible exact Int.le_of_lt (Int.pow_pos (by decide))) | (with_reducible exact Int.pow_pos (by decide)) | (with_reducible exact Nat.lt_of_lt_of_le (by decide) (by assumption)) | (with_reducible exact Int.ne_of_gt (by assumption)) | lia | omega) (x := .int ns[i.toNat] t') (by simpa using hx) (hQ _ h'' tk'' (strans st st') ⟨t', ?_⟩) (hs a t) (hg a)
  simp [List.getD_eq_getElem?_getD, hb]
end

noncomputable def StB (c : Cx) (k : Know) (h h' : Heap) : Prop := ∀ b o, b ≠ c.L → (∀ x a ns, k.fd = some (x, a, ns) → b ≠ a) → (∀ p ∈ c.cl, b ≠ p.2) → h.get? b = some o → h'.get? b = some o
theorem StB.of {c : Cx} {k : Know} {h h' : Heap} (st : h.StaysIn h') : StB c k h h' := fun b o _ _ _ e => st b o e
noncomputable def Know.adr (k : Know) : Option Addr := k.fd.map (·.2.1)
theorem adr_ne {k : Know} {b : Addr} (e : k.adr ≠ some b) : ∀ x a ns, k.fd = some (x, a, ns) → b ≠ a := fun x a ns h hb => e (by unfold Know.adr; rw [h, hb]; rfl)
theorem StB.trans {c : Cx} {k k' : Know} {h h' h'' : Heap} (a : StB c k h h') (b : StB c k' h' h'') (e : k'.adr = k.adr ∨ ∀ a, k'.adr = some a → h.get? a = none) : StB c k h h'' := by
  intro x o h1 h2 h3 h4
  refine b x o h1 (adr_ne fun hk => ?_) h3 (a x o h1 h2 h3 h4)
  rcases e with e | e
  · rw [e] at hk
    unfold Know.adr at hk
    obtain ⟨⟨y, a', ns⟩, h5, h6⟩ := Option.map_eq_some_iff.mp hk
    exact h2 y a' ns h5 h6.symm
  · exact none_at (e x hk) rfl h4
noncomputable def B (c : Cx) (env : Env) (k : Know) (ss : List Stmt) (N : Option Know) (res : Heap → Value → Prop) : Prop :=
  ∀ h tk (Q : Flow → Shared → Prop), Kn c k h → (∀ k', N = some k' → ∀ h' tk', StB c k h h' → Kn c k' h' → Q .next (St c.s h' tk')) → (∀ v h' tk', StB c k h h' → res h' v → Q (.ret v) (St c.s h' tk')) → c.wp (execs ss env) Q h tk
noncomputable def SubL : List (Str × SV) → List (Str × SV) → Prop
  | [], _ => True
  | (x, sv) :: r, l => l.lookup x = some sv ∧ SubL r l
theorem SubL.look {l : List (Str × SV)} : ∀ {l' : List (Str × SV)}, SubL l' l → ∀ {x sv}, l'.lookup x = some sv → l.lookup x = some sv
  | (y, u) :: r, h, x, sv, e => by
    rw [List.lookup_cons] at e
    cases hy : x == y with
    | true => rw [hy] at e; cases e; rw [beq_iff_eq.mp hy]; exact h.1
    | false => rw [hy] at e; exact SubL.look h.2 e
theorem Kn.sub {c : Cx} {st : Bool} {l l' : List (Str × SV)} {fd : Option (Str × Addr × List Int)} {h : Heap} (K : Kn c ⟨st, l, fd⟩ h) (s : SubL l' l) : Kn c ⟨st, l', fd⟩ h :=
  let ⟨m, K⟩ := K; ⟨m, K.F, fun x sv e => K.l x sv (s.look e), K.fd, K.cl⟩
theorem Kn.unst {c : Cx} {st : Bool} {l : List (Str × SV)} {h : Heap} (K : Kn c ⟨st, l, none⟩ h) : Kn c ⟨false, l, none⟩ h :=
  let ⟨m, K⟩ := K; ⟨m, K.F, fun x sv e => by obtain ⟨v, a, b⟩ := K.den e; exact ⟨v, a, b⟩, (fun _ _ _ e => nomatch e), K.cl⟩
theorem seqs_set {h h' : Heap} {L : Addr} {m : Str → Option Value} (hn : h.Ns L m) (hs : Heap.SameBut L h h') : Seqs h h' := by
  exact fun a o xs n e d => (hs.2 a (ns_ne hn e (nd_seq d))).trans e
theorem Kn.put0 {c : Cx} {k : Know} {h h' : Heap} {m : Str → Option Value} {x : Str} {v : Value} {sv : SV} (K : KnM c k h m) (d : Den h v sv) (hsc : k.st = true → Den c.h₀ v sv) (hfx : ∀ y a ns, k.fd = some (y, a, ns) → y ≠ x) (hcx : c.cl.lookup x = none)
    (hn : h'.Ns c.L (fun y => if y = x then some v else m y)) (hs : Heap.SameBut c.L h h') : Kn c ⟨k.st, (x, sv) :: k.l, k.fd⟩ h' := by
  have F' := K.F.set hn hs
  refine ⟨_, F', fun y u e => ?_, fun y a ns e => ?_, fun p hp => ?_⟩
  · dsimp only at e
    rw [List.lookup_cons] at e
    cases hy : y == x with
    | true =>
      rw [hy] at e
      cases e
      have e := beq_iff_eq.mp hy
      subst e
      refine ⟨v, ?_, ?_⟩
      · unfold Held; rw [hcx]; exact if_pos rfl
      · dsimp only
        cases hst : k.st with
        | true => exact hsc hst
        | false => exact d.mono (seqs_set K.F.ns hs)
    | false =>
      rw [hy] at e
      obtain ⟨v', hv, d'⟩ := K.l y u e
      refine ⟨v', ?_, ?_⟩
      · unfold Held at hv ⊢
        split
        · rename_i hc
          rw [hc] at hv
          have : y ≠ x := fun q => by rw [beq_eq_false_iff_ne] at hy; exact hy q
          dsimp only at hv ⊢
          rw [if_neg this]; exact hv
        · rename_i a hc
          rw [hc] at hv
          obtain ⟨o, ho, r⟩ := hv
          have hne : a ≠ c.L := ns_ne K.F.ns ho (nd_cell r)
          exact ⟨o, (hs.2 a hne).trans ho, r⟩
      · dsimp only
        cases hst : k.st with
        | true => rw [hst] at d'; exact d'
        | false => rw [hst] at d'; exact d'.mono (seqs_set K.F.ns hs)
  · obtain ⟨h1, h2, h3, h4, h5⟩ := K.fd y a ns e
    exact ⟨(if_neg (hfx y a ns e)).trans h1, h2, h3, h4, h5.mono (seqs_set K.F.ns hs)⟩
  · obtain ⟨h1, v', o, ho, r⟩ := K.cl p hp
    have hne : p.2 ≠ c.L := ns_ne K.F.ns ho (nd_cell r)
    exact ⟨h1, v', o, (hs.2 _ hne).trans ho, r⟩
theorem Kn.put {c : Cx} {k : Know} {h h' : Heap} {m : Str → Option Value} {x : Str} {v : Value} {sv : SV} (K : KnM c k h m) (d : Den h v sv) (hsc : k.st = true → sv.scalar = true) (hfx : ∀ y a ns, k.fd = some (y, a, ns) → y ≠ x) (hcx : c.cl.lookup x = none)
    (hn : h'.Ns c.L (fun y => if y = x then some v else m y)) (hs : Heap.SameBut c.L h h') : Kn c ⟨k.st, (x, sv) :: k.l, k.fd⟩ h' := Kn.put0 K d (fun e => d.scalar (hsc e)) hfx hcx hn hs
theorem stb_set {c : Cx} {k : Know} {h h' : Heap} (hs : Heap.SameBut c.L h h') : StB c k h h' := fun b o h1 _ _ e => (hs.2 b h1).trans e

section
variable {c : Cx} {env : Env} {k : Know} {N : Option Know} {res : Heap → Value → Prop} {D : Nat}
theorem B_end {st : Bool} {l l' : List (Str × SV)} {fd : Option (Str × Addr × List Int)} (s : SubL l' l) : B c env ⟨st, l, fd⟩ [] (some ⟨st, l', fd⟩) res :=
  fun h tk Q K hn _ => wpAny_execs_nil (hn _ rfl h tk (.of (srefl h)) (K.sub s))
theorem B_retR {e : Expr} {pos : Pos} {rest : List Stmt} {R : Heap → Heap → Value → Prop} (hj : JR c env k e R) (hR : ∀ hb h v, c.h₀.StaysIn hb → R hb h v → res h v) : B c env k (.Return (some e) pos :: rest) N res := by
  intro h tk Q K _ hr
  obtain ⟨m, K1⟩ := id K
  refine wpAny_execs_cons (wpAny_Return_some (hj h tk _ K fun v h' tk' st d => ?_))
  exact hr v h' tk' (.of st) (hR _ _ _ K1.F.keep d)
theorem B_ret {e : Expr} {pos : Pos} {rest : List Stmt} {sv : SV} (hj : J c env k e sv) : B c env k (.Return (some e) pos :: rest) N (fun h v => Den h v sv) := by
  intro h tk Q K _ hr
  refine wpAny_execs_cons (wpAny_Return_some (hj h tk _ K fun v h' tk' st d => ?_))
  exact hr v h' tk' (.of st) d
theorem B_asg {x : Str} {p pos : Pos} {e : Expr} {rest : List Stmt} {sv : SV} (eo : EO c env) (hj : J c env k e sv) (hsc : k.st = true → sv.scalar = true) (hfx : ∀ y a ns, k.fd = some (y, a, ns) → y ≠ x) (hcx : c.cl.lookup x = none)
    (hB : B c env ⟨k.st, (x, sv) :: k.l, k.fd⟩ rest N res) (hx : env.kindOf x = some .local := by rfl) (hs : swapsWith e (some (.Name x p)) pos.line env = pure false := by rfl) : B c env k (.Assign [.Name x p] e pos :: rest) N res := by
  intro h tk Q K hn hr
  refine wpAny_execs_cons (wpAny_Assign_Name (hj h tk _ K fun v h' tk' st d => ?_) hs)
  obtain ⟨m, K'⟩ := K.keeps st
  refine wpAny_storeName_local hx (by rw [eo.loc]; exact K'.F.ns) (fun h2 hn2 hs2 => ?_) (by rw [eo.kind]; rfl)
  rw [eo.loc] at hn2 hs2
  have st2 : StB c k h h2 := (StB.of st).trans (stb_set hs2) (.inl rfl)
  exact hB h2 (tk' + 1) Q (Kn.put K' d hsc hfx hcx hn2 hs2) (fun k' e h3 tk3 st3 K3 => hn k' e h3 tk3 (st2.trans st3 (.inl rfl)) K3) fun v h3 tk3 st3 d3 => hr v h3 tk3 (st2.trans st3 (.inl rfl)) d3
theorem B_aug {x : Str} {p pos : Pos} {e : Expr} {op : Operator} {rest : List Stmt} {sv0 sv1 sv : SV} (eo : EO c env) (e0 : k.l.lookup x = some sv0) (hj : J c env k e sv1) (ho : Op c (inplaceOp op) sv0 sv1 sv) (hsc : k.st = true → sv.scalar = true) (hfx : ∀ y a ns, k.fd = some (y, a, ns) → y ≠ x) (hcx : c.cl.lookup x = none)
    (hB : B c env ⟨k.st, (x, sv) :: k.l, k.fd⟩ rest N res) (hx : env.kindOf x = some .local := by rfl) : B c env k (.AugAssign (.Name x p) op e pos :: rest) N res := by
  intro h tk Q K hn hr
  obtain ⟨m, KM⟩ := id K
  obtain ⟨v0, hv0, d0⟩ := KM.den e0
  unfold Held at hv0
  rw [hcx] at hv0
  refine wpAny_execs_cons (wpAny_AugAssign_Name (wpAny_loadName_local eo.kind hx (by rw [eo.loc]; exact KM.F.ns) hv0 (hj h tk _ K fun v1 h1 tk1 st1 d1 => ?_)))
  refine ho h1 tk1 _ v0 v1 (d0.keeps st1) d1 fun v h' tk' st' d => ?_
  have st := strans st1 st'
  obtain ⟨m, K'⟩ := K.keeps st
  refine wpAny_storeName_local hx (by rw [eo.loc]; exact K'.F.ns) (fun h2 hn2 hs2 => ?_) (by rw [eo.kind]; rfl)
  rw [eo.loc] at hn2 hs2
  have st2 : StB c k h h2 := (StB.of st).trans (stb_set hs2) (.inl rfl)
  exact hB h2 (tk' + 1) Q (Kn.put K' d hsc hfx hcx hn2 hs2) (fun k' e h3 tk3 st3 K3 => hn k' e h3 tk3 (st2.trans st3 (.inl rfl)) K3) fun v h3 tk3 st3 d3 => hr v h3 tk3 (st2.trans st3 (.inl rfl)) d3
theorem B_ifret {t : Expr} {body rest : List Stmt} {pos : Pos} {b : Bool} (h0 : JT c env k t b) (h1 : b = true → B c env k body none res) (h2 : b = false → B c env k rest N res) : B c env k (.If t body [] pos :: rest) N res := by
  intro h tk Q K hn hr
  refine wpAny_execs_cons (wpAny_If (h0 h tk _ K fun h' tk' st => ?_))
  cases b with
  | true => exact h1 rfl h' tk' _ (K.keeps st) (fun _ e => nomatch e) fun v h3 tk3 st3 d3 => hr v h3 tk3 ((StB.of st).trans st3 (.inl rfl)) d3
  | false =>
    refine wpAny_execs_nil ?_
    exact h2 rfl h' tk' _ (K.keeps st) (fun k' e h3 tk3 st3 K3 => hn k' e h3 tk3 ((StB.of st).trans st3 (.inl rfl)) K3) fun v h3 tk3 st3 d3 => hr v h3 tk3 ((StB.of st).trans st3 (.inl rfl)) d3
theorem B_ifgo {t : Expr} {body orelse rest : List Stmt} {pos : Pos} {b : Bool} {k1 : Know} (h0 : JT c env k t b) (h1 : b = true → B c env k body (some k1) res) (h2 : b = false → B c env k orelse (some k1) res) (ha : k1.adr = k.adr) (h3 : B c env k1 rest N res) : B c env k (.If t body orelse pos :: rest) N res := by
  intro h tk Q K hn hr
  refine wpAny_execs_cons (wpAny_If (h0 h tk _ K fun h' tk' st => ?_))
  have st0 : StB c k h h' := .of st
  have go : ∀ ss, B c env k ss (some k1) res → c.wp (execs ss env) (fun f s' => match f with | .next => wpAny (model prg c.w) c.A (execs rest env) Q (fun _ _ => False) s' | f => Q f s') h' tk' := fun ss hB =>
    hB h' tk' _ (K.keeps st) (fun k' e h3' tk3 st3 K3 => by
      cases e
      exact h3 h3' tk3 Q K3 (fun k' e h4 tk4 st4 K4 => hn k' e h4 tk4 ((st0.trans st3 (.inl rfl)).trans st4 (.inl ha)) K4) fun v h4 tk4 st4 d4 => hr v h4 tk4 ((st0.trans st3 (.inl rfl)).trans st4 (.inl ha)) d4)
      fun v h3 tk3 st3 d3 => hr v h3 tk3 (st0.trans st3 (.inl rfl)) d3
  cases b with
  | true => exact go _ (h1 rfl)
  | false => exact go _ (h2 rfl)
theorem B_unst {l : List (Str × SV)} {st : Bool} {ss : List Stmt} (h : B c env ⟨false, l, none⟩ ss N res) : B c env ⟨st, l, none⟩ ss N res :=
  fun h' tk Q K hn hr => h h' tk Q K.unst hn hr
theorem B_while {σ : Type} {t : Expr} {body rest : List Stmt} {pos : Pos} (P : σ → Prop) (KI : σ → Know) (b : σ → Bool) (nx : σ → σ) (μ : σ → Nat) (x₀ : σ) (hP0 : P x₀) (h0 : ∀ h, Kn c k h → Kn c (KI x₀) h) (hadr : ∀ x, (KI x).adr = k.adr)
    (ht : ∀ x, P x → JT c env (KI x) t (b x)) (hb : ∀ x, P x → b x = true → B c env (KI x) body (some (KI (nx x))) res ∧ P (nx x) ∧ μ (nx x) < μ x) (hr : ∀ x, P x → b x = false → B c env (KI x) rest N res)
    (hE : PassesOwn (model prg c.w) c.A env (fun _ _ => False) := by passes_own) : B c env k (.While t body [] pos :: rest) N res := by
  intro h tk Q K hn hret
  refine wpAny_execs_cons (wpAny_While (codeAny_whileLoop (fun n s' => ∃ h' tk' x, s' = St c.s h' tk' ∧ P x ∧ Kn c (KI x) h' ∧ StB c k h h' ∧ n = μ x) ?_ (μ x₀) (mk3 h tk x₀ ⟨rfl, hP0, h0 h K, .of (srefl h), rfl⟩)))
  refine fun n s' hI => ex3 hI fun h1 tk1 x hz => an5 hz fun e1 hP K1 st1 e2 => ?_
  clear hz hI
  subst e1; subst e2
  refine wpAny_mono (ht x hP h1 tk1 (fun b' s₂ => b' = b x ∧ ∃ h2 tk2, s₂ = St c.s h2 tk2 ∧ h1.StaysIn h2) K1 fun h2 tk2 st2 => ⟨rfl, h2, tk2, rfl, st2⟩) (fun b' s₂ hq => ?_) fun _ _ e => e.elim
  obtain ⟨rfl, h2, tk2, rfl, st2⟩ := hq
  have st12 : StB c k h h2 := st1.trans (StB.of (k := k) st2) (.inl rfl)
  cases hbx : b x with
  | false =>
    simp only [Bool.false_eq_true, if_false]
    refine wpAny_execs_nil ?_
    exact hr x hP hbx h2 tk2 Q (K1.keeps st2) (fun k' e h3 tk3 st3 K3 => hn k' e h3 tk3 (st12.trans st3 (.inl (hadr x))) K3) fun v h3 tk3 st3 d3 => hret v h3 tk3 (st12.trans st3 (.inl (hadr x))) d3
  | true =>
    simp only [if_true]
    obtain ⟨hB, hP', hμ⟩ := hb x hP hbx
    refine wpAny_mono (hB h2 tk2 (fun f s₃ => match f with | .next => ∃ h3 tk3, s₃ = St c.s h3 tk3 ∧ StB c k h h3 ∧ Kn c (KI (nx x)) h3 | .ret v => Q (.ret v) s₃ | _ => False) (K1.keeps st2) (fun k' e h3 tk3 st3 K3 => by
      cases e
      exact ⟨h3, tk3, rfl, st12.trans st3 (.inl (hadr x)), K3⟩) fun v h3 tk3 st3 d3 => hret v h3 tk3 (st12.trans st3 (.inl (hadr x))) d3) (fun f s₃ hq => ?_) fun _ _ e => e.elim
    cases f with
    | next =>
      obtain ⟨h3, tk3, rfl, st3, K3⟩ := hq
      exact ⟨μ (nx x), hμ, mk3 h3 tk3 (nx x) ⟨rfl, hP', K3, st3, rfl⟩⟩
    | ret v => exact hq
    | cont => exact hq.elim
    | brk => exact hq.elim
end

theorem zip_look {h : Heap} : ∀ {xs : List Str} {vals : List Value} {svs : List SV}, xs.Nodup → xs.length = svs.length → DenAll h vals svs → ∀ x sv, (xs.zip svs).lookup x = some sv → ∃ v, (xs.zip vals).lookup x = some v ∧ Den h v sv
  | [], _, _, _, _, _, _, _, e => by simp at e
  | _ :: _, _, [], _, hl, _, _, _, _ => by simp at hl
  | _ :: _, [], _ :: _, _, _, ds, _, _, _ => ds.elim
  | y :: xs, v :: vals, u :: svs, hn, hl, ⟨d, ds⟩, x, sv, e => by
    rw [List.zip_cons_cons, List.lookup_cons] at e
    rw [List.zip_cons_cons, List.lookup_cons]
    cases hy : x == y with
    | true => rw [hy] at e; cases e; exact ⟨v, rfl, d⟩
    | false => rw [hy] at e; exact zip_look (List.nodup_cons.mp hn).2 (by simpa using hl) ds x sv e
theorem mem_of_look {α : Type} {x : Str} {v : α} : ∀ {l : List (Str × α)}, l.lookup x = some v → (x, v) ∈ l
  | (y, u) :: r, e => by
    rw [List.lookup_cons] at e
    cases hy : x == y with
    | true => rw [hy] at e; cases e; rw [beq_iff_eq.mp hy]; exact .head _
    | false => rw [hy] at e; exact .tail _ (mem_of_look e)
theorem look_of_mem {α : Type} {x : Str} {v : α} : ∀ {l : List (Str × α)}, (l.map (·.1)).Nodup → (x, v) ∈ l → l.lookup x = some v
  | (y, u) :: r, hn, hm => by
    rw [List.lookup_cons]
    rcases List.mem_cons.mp hm with e | hm
    · cases e; simp
    · have hn := List.nodup_cons.mp hn
      have : x ≠ y := fun q => hn.1 (q ▸ List.mem_map_of_mem (f := (·.1)) hm)
      have hb : (x == y) = false := by simpa using this
      rw [hb]
      exact look_of_mem hn.2 hm
theorem look_reverse {α : Type} {l : List (Str × α)} (hn : (l.map (·.1)).Nodup) {x : Str} {v : α} (e : l.lookup x = some v) : l.reverse.lookup x = some v := by
  refine look_of_mem ?_ (List.mem_reverse.mpr (mem_of_look e))
  rw [List.map_reverse]
  exact List.pairwise_reverse.mpr (hn.imp fun h => Ne.symm h)
theorem zip_names {β : Type} : ∀ {xs : List Str} {ys : List β}, xs.length = ys.length → (xs.zip ys).map (·.1) = xs
  | [], _, _ => rfl
  | x :: xs, y :: ys, h => by rw [List.zip_cons_cons, List.map_cons, zip_names (by simpa using h)]
theorem denAll_length {h : Heap} : ∀ {vals : List Value} {svs : List SV}, DenAll h vals svs → vals.length = svs.length
  | [], [], _ => rfl
  | _ :: _, _ :: _, ⟨_, r⟩ => by rw [List.length_cons, List.length_cons, denAll_length r]
theorem fnc_intro {w : World} {mean : ExcName → Option Value} {mg mb : Str → Option Value} {D : Nat} {x : Str} {svs : List SV} {R : Heap → Heap → Value → Prop} (xs : List Str)
    {params : Arguments} {body : List Stmt} {scope : Scope} {ps : Pos} (hf : (recsOf hd.view_39).find? (fun e => e.name == x) = some ⟨x, params, body, scope, ps⟩)
    (hbind : ∀ s pm code doc vals, vals.length = xs.length → BindsTo s (docDef x params body scope pm code doc) ⟨vals, []⟩ (xs.zip vals))
    (hloc : ∀ y ∈ xs, scope.names.lookup y = some .local) (hnd : xs.Nodup) (hlen : xs.length = svs.length) (hcell : ∀ x ∈ scope.names, x.2 ≠ .cell) (hco : scope.isCoroutine = false) (hgen : scope.isGenerator = false) (hk : scope.kind = .function)
    (h : ∀ (c : Cx) f cdv, c.Ok D → c.cl = [] → EO c (envOf x scope c.L f cdv) → B c (envOf x scope c.L f cdv) ⟨true, xs.zip svs, none⟩ body none (R c.h₀)) : FncR w mean mg mb (D + 1) x svs R := by
  intro f dp un gd fr s vals Q hmg H hdp hun ds hQ
  obtain ⟨f', o, pm, cdv, doc, h1, h2, h3, h4⟩ := H.T.fn _ (List.mem_of_find?_eq_some hf)
  cases Value.ref.inj (Option.some.inj (h1.symm.trans hmg))
  have hl := denAll_length ds
  have hlv : (xs.zip vals).map (·.1) = xs := zip_names (by first | (with_reducible assumption) | (with_reducible exact Nat.le_trans (by assumption) (by decide)) | (with_reducible exact b0 (by assumption)) | (with_reducible exact b1 (by assumption)) | (with_reducible exact b2 (by assumption)) | (with_reducible exact Int.le_of_lt (by assumption)) | (with_reducible exact Nat.le_of_lt (by assumption)) | (with_reducible exact Int.natCast_nonneg _) | (with_reducible exact Int.le_of_lt (Int.pow_pos (by decide))) | (with_reducible exact Int.pow_pos (by decide)) | (with_reducible exact Nat.lt_of_lt_of_le (by decide) (by assumption)) | (with_reducible exact Int.ne_of_gt (by assumption)) | lia | omega)
  refine wpAny_call (codeAny_call_def (fd := docDef x params body scope pm cdv doc) (body := body) (binds := xs.zip vals) (by show dp < 1000; (first | lia | omega)) h2 h3 H.T.nolimit h4 rfl (hbind s _ _ _ vals (by first | (with_reducible assumption) | (with_reducible exact Nat.le_trans (by assumption) (by decide)) | (with_reducible exact b0 (by assumption)) | (with_reducible exact b1 (by assumption)) | (with_reducible exact b2 (by assumption)) | (with_reducible exact Int.le_of_lt (by assumption)) | (with_reducible exact Nat.le_of_lt (by assumption)) | (with_reducible exact Int.natCast_nonneg _) | (with_reducible exact Int.le_of_lt (Int.pow_pos (by decide))) | (with_reducible exact Int.pow_pos (by decide)) | (with_reducible exact Nat.lt_of_lt_of_le (by decide) (by assumption)) | (with_reducible exact Int.ne_of_gt (by assumption)) | lia | omega)) hcell (fun y hy => ?_) (fun h₁ hns hk₁ => ?_) hco hgen hk)
  · exact hloc y.1 (by rw [← hlv]; exact List.mem_map_of_mem (f := (·.1)) hy)
  let env := envOf x scope s.heap.objs.size f cdv
  let c : Cx := ⟨w, mean, mg, mb, s.heap, s.heap.objs.size, dp + 1, un + 3, gd, env :: fr, s, []⟩
  have F : Fr s.heap s.heap.objs.size h₁ (fun y => (xs.zip vals).reverse.lookup y) := ⟨hns, hk₁, Nat.le_refl _⟩
  have K : Kn c ⟨true, xs.zip svs, none⟩ h₁ := by
    refine ⟨_, F, fun x u e => ?_, (fun _ _ _ e => nomatch e), fun _ hp => nomatch hp⟩
    obtain ⟨v, hv, d⟩ := zip_look hnd hlen ds x u e
    exact ⟨v, look_reverse (by rw [hlv]; exact hnd) hv, d⟩
  refine wpAny_mono (h c f cdv ⟨H, by show dp + 1 + D ≤ 900; (first | lia | omega), by show un + 3 + 20 * D ≤ 9000; (first | lia | omega)⟩ rfl ⟨rfl, hk, rfl, rfl, rfl⟩ h₁ _ (fun fl s' => Q (match fl with | .ret v => v | _ => .none) s') K (fun _ e => nomatch e) fun v h' tk' st d => ?_) (fun _ _ q => q) (fun _ _ e => e.elim)
  refine hQ v h' tk' (fun b o e => st b o ?_ (fun _ _ _ e => nomatch e) (fun _ hp => nomatch hp) (F.keep b o e)) d
  exact Nat.ne_of_lt (Heap.lt_size e)

noncomputable def ItAt (c : Cx) (h h' : Heap) (I : Addr) (n : Nat) (val : Nat → SV) : Prop :=
  h.get? I = none ∧ ∃ (fp : List Addr) (P : Nat → Value → Prop) (Sti : Nat → Heap → Prop), Walks prg c.w c.A I fp [I] n P Sti ∧ Sti 0 h' ∧ (∀ i v, i < n → P i v → ∀ g, Den g v (val i)) ∧
    (∀ b ∈ fp, b ≠ I → ∃ o, c.h₀.get? b = some o) ∧ (∀ i g, Sti i g → ∃ o, g.get? I = some o ∧ (∀ xs n, o.data ≠ .seq xs n) ∧ (∀ es n, o.data ≠ .dict es n) ∧ ∀ v, o.data ≠ .cell v)
noncomputable def It (c : Cx) (env : Env) (k : Know) (iter : Expr) (n : Nat) (val : Nat → SV) : Prop :=
  ∀ h tk (Q : Value → Shared → Prop), Kn c k h → (∀ I h' tk', h.StaysIn h' → ItAt c h h' I n val → Q (.ref I) (St c.s h' tk')) →
    c.wp (eval iter env) (fun xv s₁ => wpAny (model prg c.w) c.A (pyIter xv) Q (fun _ _ => False) s₁) h tk
section
variable {c : Cx} {env : Env} {k : Know} {N : Option Know} {res : Heap → Value → Prop} {D : Nat}
theorem Kn.but {h h' : Heap} {I : Addr} (K : Kn c k h) (hI : c.h₀.get? I = none) (hL : I ≠ c.L) (hc : ∀ p ∈ c.cl, p.2 ≠ I) (ha : k.adr ≠ some I) (ho : ∃ o, h.get? I = some o ∧ ∀ xs n, o.data ≠ .seq xs n)
    (hk : ∀ b o, b ≠ I → h.get? b = some o → h'.get? b = some o) : Kn c k h' := by
  obtain ⟨m, K⟩ := K
  have hq : Seqs h h' := fun a o xs n e d => hk a o (fun q => by
    obtain ⟨o', e', d'⟩ := ho
    rw [q, e'] at e; cases e
    exact d' xs n d) e
  refine ⟨m, ⟨K.F.ns.at' fun o e => hk _ o (Ne.symm hL) e, fun b o e => hk b o (fun q => none_at hI q e) (K.F.keep b o e), K.F.above⟩, fun x sv e => ?_, fun x a ns e => ?_, fun p hp => ?_⟩
  · obtain ⟨v, hv, d⟩ := K.l x sv e
    refine ⟨v, ?_, ?_⟩
    · unfold Held at hv ⊢
      split
      · rename_i hx; rw [hx] at hv; exact hv
      · rename_i a hx
        rw [hx] at hv
        obtain ⟨o, e1, r⟩ := hv
        exact ⟨o, hk a o (hc _ (mem_of_look hx)) e1, r⟩
    · cases hs : k.st with
      | true => rw [hs] at d; exact d
      | false => rw [hs] at d; exact d.mono hq
  · obtain ⟨h1, h2, h3, h4, h5⟩ := K.fd x a ns e
    exact ⟨h1, h2, h3, h4, h5.mono hq⟩
  · obtain ⟨h1, v, o, e, r⟩ := K.cl p hp
    exact ⟨h1, v, o, hk _ o (hc p hp) e, r⟩
theorem Kn.adr_some {h : Heap} (K : Kn c k h) {a : Addr} (e : k.adr = some a) : ∃ o, h.get? a = some o ∧ c.h₀.get? a = none := by
  obtain ⟨m, K⟩ := K
  unfold Know.adr at e
  obtain ⟨⟨y, a', ns⟩, h5, rfl⟩ := Option.map_eq_some_iff.mp e
  obtain ⟨_, h2, _, _, vs, n, h6, _⟩ := K.fd _ _ _ h5
  exact ⟨_, h6, h2⟩
theorem B_for {x : Str} {px pos : Pos} {iter : Expr} {body rest : List Stmt} (n : Nat) (val : Nat → SV) (KI : Nat → Know) (P₀ : Nat → Prop) (hP0 : P₀ 0) (eo : EO c env) (hit : It c env k iter n val) (h0 : ∀ h, Kn c k h → Kn c (KI 0) h) (hadr : ∀ i, (KI i).adr = k.adr)
    (hfx : ∀ i y a ns, (KI i).fd = some (y, a, ns) → y ≠ x) (hsc : ∀ i, (val i).scalar = true) (hcx : c.cl.lookup x = none)
    (hb : ∀ i, i < n → P₀ i → (P₀ (i + 1) ∧ B c env ⟨(KI i).st, (x, val i) :: (KI i).l, (KI i).fd⟩ body (some (KI (i + 1))) res) ∨ B c env ⟨(KI i).st, (x, val i) :: (KI i).l, (KI i).fd⟩ body none res) (hr : P₀ n → B c env (KI n) rest N res)
    (hx : env.kindOf x = some .local := by rfl) (hs : ∀ x, foldedSetIterable iter env x = pure x := by intro _; rfl) (hE : PassesOwn (model prg c.w) c.A env (fun _ _ => False) := by passes_own) :
    B c env k (.For (.Name x px) iter body [] pos :: rest) N res := by
  intro h tk Q K hn hret
  refine wpAny_execs_cons (wpAny_For (hit h tk _ K fun I h1 tk1 st1 hI => ?_) hs)
  refine ex3 hI.2 fun fp P Sti hz => an5 hz fun W hst hval hfp hIo => ?_
  have hI0 := hI.1
  clear hz hI
  have K1 := K.keeps st1
  have hIh : c.h₀.get? I = none := ex1 K fun _ KM => none_old KM.F.keep hI0
  have hIL : I ≠ c.L := fun q => ex1 K fun _ KM => ex3 KM.F.ns fun _ _ _ hL => none_at hI0 q.symm hL.1
  have hIc : ∀ p ∈ c.cl, p.2 ≠ I := fun p hp q => ex1 K fun _ KM => ex2 (KM.cl p hp).2 fun _ _ e => none_at hI0 q e.1
  have hIa : ∀ i, (KI i).adr ≠ some I := fun i q => ex1 (K.adr_some (hadr i ▸ q)) fun _ e => none_at hI0 rfl e.1
  refine codeAny_forLoop (fun j s' => ∃ h' tk' i, s' = St c.s h' tk' ∧ Sti i h' ∧ Kn c (KI i) h' ∧ StB c k h h' ∧ i ≤ n ∧ j = n + 1 - i ∧ P₀ i) ?_ (n + 1) (mk3 h1 tk1 0 ⟨rfl, hst, h0 _ K1, .of st1, Nat.zero_le _, rfl, hP0⟩)
  refine fun j s' hI => ex3 hI fun h2 tk2 i hz => an7 hz fun e1 hst2 K2 st2 hi e2 hPi => ?_
  clear hz hI
  subst e1; subst e2
  obtain ⟨oI, hoI, hns, hnd, hnc⟩ := hIo i h2 hst2
  have next : ∀ h3 : Heap, (∀ b o, b ∉ [I] → h2.get? b = some o → h3.get? b = some o) → Kn c (KI i) h3 ∧ StB c k h h3 := fun h3 hk => by
    have hk' : ∀ b o, b ≠ I → h2.get? b = some o → h3.get? b = some o := fun b o hb e => hk b o (fun hm => hb (List.mem_singleton.mp hm)) e
    refine ⟨K2.but hIh hIL hIc (hIa i) ⟨oI, hoI, hns⟩ hk', fun b o hb1 hb2 hb3 e => hk' b o (fun q => none_at hI0 q e) (st2 b o hb1 hb2 hb3 e)⟩
  by_cases hlt : i < n
  · refine W.item i _ _ _ hlt hst2 fun v h3 tk3 hP hst3 hk3 => ?_
    obtain ⟨⟨m, K3⟩, st3⟩ := next h3 hk3
    refine wpAny_assign_Name (wpAny_storeName_local hx (by rw [eo.loc]; exact K3.F.ns) (fun h4 hn4 hs4 => ?_) (by rw [eo.kind]; rfl))
    rw [eo.loc] at hn4 hs4
    have K4 := Kn.put K3 (hval i v hlt hP h3) (fun _ => hsc i) (hfx i) hcx hn4 hs4
    have hst4 : Sti (i + 1) h4 := W.frame _ _ _ hst3 fun b hb o e => (hs4.2 b fun q => by
      by_cases hbI : b = I
      · exact hIL (hbI.symm.trans q)
      · obtain ⟨o', ho'⟩ := hfp b hb hbI
        exact Nat.ne_of_lt (Nat.lt_of_lt_of_le (Heap.lt_size ho') K3.F.above) q).trans e
    have st4 : StB c k h h4 := st3.trans (stb_set hs4) (.inl rfl)
    have hgo : c.wp (execs body env) (fun f s₃ => match f with | .next => P₀ (i + 1) ∧ ∃ h5 tk5, s₃ = St c.s h5 tk5 ∧ StB c (KI i) h4 h5 ∧ Kn c (KI (i + 1)) h5 | .ret v => Q (.ret v) s₃ | _ => False) h4 (tk3 + 1) := by
      rcases hb i hlt hPi with ⟨hP', hB⟩ | hB
      · exact hB h4 (tk3 + 1) _ K4 (fun k' e h5 tk5 st5 K5 => by
          cases e
          exact ⟨hP', h5, tk5, rfl, st5, K5⟩) fun v h5 tk5 st5 d5 => hret v h5 tk5 (st4.trans (k' := KI i) st5 (.inl (hadr i))) d5
      · exact hB h4 (tk3 + 1) _ K4 (fun k' e => nomatch e) fun v h5 tk5 st5 d5 => hret v h5 tk5 (st4.trans (k' := KI i) st5 (.inl (hadr i))) d5
    refine wpAny_mono hgo (fun f s₃ hq => ?_) fun _ _ e => e.elim
    cases f with
    | next =>
      obtain ⟨hP', h5, tk5, rfl, st5, K5⟩ := hq
      refine ⟨n + 1 - (i + 1), by (first | lia | omega), mk3 h5 tk5 (i + 1) ⟨rfl, W.frame _ _ _ hst4 fun b hb o e => ?_, K5, st4.trans st5 (.inl (hadr i)), hlt, rfl, hP'⟩⟩
      by_cases hbI : b = I
      · subst hbI
        exact st5 b o hIL (adr_ne (hIa i)) (fun p hp q => hIc p hp q.symm) e
      · obtain ⟨o', ho'⟩ := hfp b hb hbI
        obtain ⟨m4, K4⟩ := K4
        obtain ⟨m5, K5⟩ := K5
        have := K4.F.keep b o' ho'
        rw [e] at this; cases this
        exact K5.F.keep b o ho'
    | ret v => exact hq
    | cont => exact hq.elim
    | brk => exact hq.elim
  · have hin : i = n := by (first | lia | omega)
    subst hin
    refine W.done _ _ _ hst2 fun h3 tk3 hk3 => wpAny_execs_nil ?_
    obtain ⟨K3, st3⟩ := next h3 hk3
    exact hr hPi h3 tk3 Q K3 (fun k' e h4 tk4 st4 K4 => hn k' e h4 tk4 (st3.trans st4 (.inl (hadr i))) K4) fun v h4 tk4 st4 d4 => hret v h4 tk4 (st3.trans st4 (.inl (hadr i))) d4
theorem It_of_range {iter : Expr} {a b s : Int} {n : Nat} (hsm : Builtin.Range.small a b s = true) (hn : Builtin.Range.rangeSize a b s = (n : Int))
    (h : ∀ h tk (Q : Value → Shared → Prop), Kn c k h → (∀ r h' tk' t u v, h.StaysIn h' → IsRange h' r a b s t u v → Q (.ref r) (St c.s h' tk')) → c.wp (eval iter env) Q h tk) : It c env k iter n (fun i => .i (a + i * s)) := by
  intro g tk Q K hQ
  refine h g tk _ K fun r h' tk' t u v st hr => wpAny_pyIter_range hr hsm ?_
  refine hQ h'.objs.size _ tk' (fun b o e => Heap.get?_push_of_some _ (st b o e)) ⟨?_, [h'.objs.size], _, _, Walks.range rfl h'.objs.size a s n, ?_, ?_, ?_, ?_⟩
  · exact fresh_after st
  · show IsRangeIter (h'.push _) h'.objs.size _ _ _
    rw [hn]
    simpa using Heap.get?_push_size h' rfl
  · rintro i v _ ⟨t, rfl⟩ g'
    exact ⟨t, rfl⟩
  · intro b hb hne
    exact absurd (List.mem_singleton.mp hb) hne
  · intro i g' hs
    exact ⟨_, hs, fun _ _ => by simp, fun _ _ => by simp, fun _ => by simp⟩
theorem news_none {h₀ h : Heap} {L : Addr} : News h₀ L h [] := fun _ hp => nomatch hp
theorem It_range1 {p pos : Pos} {e : Expr} {b : Int} {n : Nat} (eo : EO c env) (o : c.Ok D) (hf : Free "range") (he : J c env k e (.i b)) (hb : 0 ≤ b) (hb2 : b < 2 ^ 62) (hn : n = b.toNat)
    (hs : starEach [e] env = (false, eval e env) :: starEach [] env := by rfl) (hx : env.kindOf "range" = some .globalImplicit := by rfl) : It c env k (.Call (.Name "range" p) [e] [] pos) n (fun i => .i i) := by
  have H : It c env k (.Call (.Name "range" p) [e] [] pos) n (fun i => .i (0 + i * 1)) := by
    refine It_of_range (b := b) (small_one (by decide) (by decide) (by first | (with_reducible assumption) | (with_reducible exact Nat.le_trans (by assumption) (by decide)) | (with_reducible exact b0 (by assumption)) | (with_reducible exact b1 (by assumption)) | (with_reducible exact b2 (by assumption)) | (with_reducible exact Int.le_of_lt (by assumption)) | (with_reducible exact Nat.le_of_lt (by assumption)) | (with_reducible exact Int.natCast_nonneg _) | (with_reducible exact Int.le_of_lt (Int.pow_pos (by decide))) | (with_reducible exact Int.pow_pos (by decide)) | (with_reducible exact Nat.lt_of_lt_of_le (by decide) (by assumption)) | (with_reducible exact Int.ne_of_gt (by assumption)) | lia | omega) hb2) (by rw [rangeSize_nat]; (first | lia | omega)) fun h tk Q K hQ => ?_
    refine Call_Name rfl (name_bui eo o K hf boot_range (by decide) hx (by decide) ?_)
    refine Pv.callWith_type1 (Js_cons he Js_nil hs pos h tk _ K fun vs h' tk' st ds => ?_) hs rfl
    obtain ⟨v, rfl, t, e1⟩ := den1 ds
    subst e1
    obtain ⟨m, K'⟩ := K.keeps st
    exact range1_rows K'.F news_none fun h'' tk'' t1 u1 v1 hr _ _ st' => hQ _ _ _ _ _ _ (strans st st') hr
  have e : (fun i : Nat => SV.i (0 + (i : Int) * 1)) = fun i : Nat => SV.i i := by funext i; congr 1; (first | lia | omega)
  rw [e] at H; exact H
theorem It_range2 {p pos : Pos} {e1 e2 : Expr} {a b : Int} {n : Nat} (eo : EO c env) (o : c.Ok D) (hf : Free "range") (h1 : J c env k e1 (.i a)) (h2 : J c env k e2 (.i b)) (ha : 0 ≤ a) (ha2 : a < 2 ^ 62) (hb : 0 ≤ b) (hb2 : b < 2 ^ 62) (hn : n = (b - a).toNat)
    (hs : starEach [e1, e2] env = (false, eval e1 env) :: starEach [e2] env := by rfl) (hs2 : starEach [e2] env = (false, eval e2 env) :: starEach [] env := by rfl) (hpl : (backTo pos (starEach [e2] env)).any (·.1) = false := by rfl) (hx : env.kindOf "range" = some .globalImplicit := by rfl) :
    It c env k (.Call (.Name "range" p) [e1, e2] [] pos) n (fun i => .i (a + i)) := by
  have H : It c env k (.Call (.Name "range" p) [e1, e2] [] pos) n (fun i => .i (a + i * 1)) := by
    refine It_of_range (b := b) (small_one (by first | (with_reducible assumption) | (with_reducible exact Nat.le_trans (by assumption) (by decide)) | (with_reducible exact b0 (by assumption)) | (with_reducible exact b1 (by assumption)) | (with_reducible exact b2 (by assumption)) | (with_reducible exact Int.le_of_lt (by assumption)) | (with_reducible exact Nat.le_of_lt (by assumption)) | (with_reducible exact Int.natCast_nonneg _) | (with_reducible exact Int.le_of_lt (Int.pow_pos (by decide))) | (with_reducible exact Int.pow_pos (by decide)) | (with_reducible exact Nat.lt_of_lt_of_le (by decide) (by assumption)) | (with_reducible exact Int.ne_of_gt (by assumption)) | lia | omega) ha2 (by first | (with_reducible assumption) | (with_reducible exact Nat.le_trans (by assumption) (by decide)) | (with_reducible exact b0 (by assumption)) | (with_reducible exact b1 (by assumption)) | (with_reducible exact b2 (by assumption)) | (with_reducible exact Int.le_of_lt (by assumption)) | (with_reducible exact Nat.le_of_lt (by assumption)) | (with_reducible exact Int.natCast_nonneg _) | (with_reducible exact Int.le_of_lt (Int.pow_pos (by decide))) | (with_reducible exact Int.pow_pos (by decide)) | (with_reducible exact Nat.lt_of_lt_of_le (by decide) (by assumption)) | (with_reducible exact Int.ne_of_gt (by assumption)) | lia | omega) hb2) (by rw [rangeSize_nat]; (first | lia | omega)) fun h tk Q K hQ => ?_
    refine Call_Name rfl (name_bui eo o K hf boot_range (by decide) hx (by decide) ?_)
    refine Pv.callWith_type1 (Js_cons h1 (Js_cons h2 Js_nil hs2) hs pos h tk _ K fun vs h' tk' st ds => ?_) hs hpl
    obtain ⟨v, u, rfl, ⟨t, e1⟩, t', e2⟩ := den2 ds
    subst e1; subst e2
    obtain ⟨m, K'⟩ := K.keeps st
    exact range2_rows K'.F news_none fun h'' tk'' t1 u1 v1 hr _ _ st' => hQ _ _ _ _ _ _ (strans st st') hr
  have e : (fun i : Nat => SV.i (a + (i : Int) * 1)) = fun i : Nat => SV.i (a + i) := by funext i; congr 1; (first | lia | omega)
  rw [e] at H; exact H
end

section
variable {c : Cx} {env : Env} {k : Know} {N : Option Know} {res : Heap → Value → Prop} {D : Nat}
theorem It_down {p pos : Pos} {e1 e2 e3 : Expr} {a : Int} {n : Nat} (eo : EO c env) (o : c.Ok D) (hf : Free "range") (h1 : J c env k e1 (.i a)) (h2 : J c env k e2 (.i (-1))) (h3 : J c env k e3 (.i (-1))) (ha : -1 ≤ a) (ha2 : a < 2 ^ 40) (hn : n = (a + 1).toNat)
    (hs : starEach [e1, e2, e3] env = (false, eval e1 env) :: starEach [e2, e3] env := by rfl) (hs2 : starEach [e2, e3] env = (false, eval e2 env) :: starEach [e3] env := by rfl) (hs3 : starEach [e3] env = (false, eval e3 env) :: starEach [] env := by rfl)
    (hpl : (backTo pos (starEach [e2, e3] env)).any (·.1) = false := by rfl) (hx : env.kindOf "range" = some .globalImplicit := by rfl) :
    It c env k (.Call (.Name "range" p) [e1, e2, e3] [] pos) n (fun i => .i (a - i)) := by
  have H : It c env k (.Call (.Name "range" p) [e1, e2, e3] [] pos) n (fun i => .i (a + i * (-1))) := by
    have hsz : Builtin.Range.rangeSize a (-1) (-1) = (n : Int) := by
      unfold Builtin.Range.rangeSize
      rw [if_neg (by decide)]
      split
      · have : (-(-1) : Int) = 1 := by decide
        rw [this, Int.ediv_one]; (first | lia | omega)
      · (first | lia | omega)
    refine It_of_range (b := -1) ?_ hsz fun h tk Q K hQ => ?_
    · unfold Builtin.Range.small
      rw [hsz]
      simp [Builtin.Range.rangeFitsLong]; (first | lia | omega)
    refine Call_Name rfl (name_bui eo o K hf boot_range (by decide) hx (by decide) ?_)
    refine Pv.callWith_type1 (Js_cons h1 (Js_cons h2 (Js_cons h3 Js_nil hs3) hs2) hs pos h tk _ K fun vs h' tk' st ds => ?_) hs hpl
    obtain ⟨v, u, y, rfl, ⟨t, e1⟩, ⟨t', e2⟩, t'', e3⟩ := den3 ds
    subst e1; subst e2; subst e3
    obtain ⟨m, K'⟩ := K.keeps st
    exact range3_rows K'.F news_none (by decide) (fun h'' tk'' t1 u1 v1 hr _ _ st' => hQ _ _ _ _ _ _ (strans st st') hr) (.inl (PyProof.noPylong_small (by first | (with_reducible assumption) | (with_reducible exact Nat.le_trans (by assumption) (by decide)) | (with_reducible exact b0 (by assumption)) | (with_reducible exact b1 (by assumption)) | (with_reducible exact b2 (by assumption)) | (with_reducible exact Int.le_of_lt (by assumption)) | (with_reducible exact Nat.le_of_lt (by assumption)) | (with_reducible exact Int.natCast_nonneg _) | (with_reducible exact Int.le_of_lt (Int.pow_pos (by decide))) | (with_reducible exact Int.pow_pos (by decide)) | (with_reducible exact Nat.lt_of_lt_of_le (by decide) (by assumption)) | (with_reducible exact Int.ne_of_gt (by assumption)) | lia | omega)))
  have e : (fun i : Nat => SV.i (a + (i : Int) * (-1))) = fun i : Nat => SV.i (a - i) := by funext i; congr 1; (first | lia | omega)
  rw [e] at H; exact H
theorem It_list {x : Str} {p : Pos} {ns : List Int} (eo : EO c env) (hst : k.st = true) (e : k.l.lookup x = some (.l ns)) (hcl : c.cl.lookup x = none) (hx : env.kindOf x = some .local := by rfl) (hd : (x == ("__debug__" : Str)) = false := by decide) :
    It c env k (.Name x p) ns.length (fun i => .i (ns.getD i 0)) := by
  intro h tk Q ⟨m, K⟩ hQ
  obtain ⟨v, hv, d⟩ := K.l _ _ e
  unfold Held at hv
  rw [hcl] at hv
  rw [hst] at d
  obtain ⟨a, rfl, us, n, ho, hi⟩ := d
  refine wpAny_Name (wpAny_loadName_local eo.kind hx (by rw [eo.loc]; exact K.F.ns) hv ?_) hd
  have ho' := K.F.keep _ _ ho
  have hls : (St c.s h tk).heap.IsList a us.toArray := ⟨_, ho', rfl, n, rfl⟩
  have hne : a ≠ h.objs.size := Nat.ne_of_lt (Heap.lt_size ho')
  refine wpAny_pyIter_list hls ?_
  have hlen : us.toArray.size = ns.length := by simp [hi.length]
  have W := Walks.list (prog := prg) (w := c.w) (A := c.A) rfl h.objs.size a hne us.toArray
  rw [hlen] at W
  refine hQ h.objs.size _ tk (fun b o e => Heap.get?_push_of_some _ e) ⟨fresh_size h, _, _, _, W, ⟨⟨_, Heap.get?_push_size _ rfl, rfl, rfl⟩, hls.at fun o e => Heap.get?_push_of_some _ e⟩, ?_, ?_, ?_⟩
  · intro i v hi' hP g
    obtain ⟨t, hx'⟩ := hi.get i ns[i] (by simp [hi'])
    have hP' : us[i]? = some v := by simpa using hP
    rw [hx'] at hP'
    cases hP'
    exact ⟨t, by simp [List.getD_eq_getElem?_getD, hi']⟩
  · intro b hb hne'
    rcases List.mem_cons.mp hb with e' | hm
    · exact absurd e' hne'
    · rw [List.mem_singleton.mp hm]; exact ⟨_, ho⟩
  · rintro i g ⟨⟨o, ho2, _, hd2⟩, _⟩
    exact ⟨o, ho2, fun _ _ => by rw [hd2]; simp, fun _ _ => by rw [hd2]; simp, fun _ => by rw [hd2]; simp⟩

noncomputable def JN (c : Cx) (env : Env) (k : Know) (e : Expr) (ns : List Int) : Prop :=
  ∀ h tk (Q : Value → Shared → Prop), Kn c k h → (∀ a h' tk', h.StaysIn h' → h.get? a = none → LAt h' a ns → Q (.ref a) (St c.s h' tk')) → c.wp (eval e env) Q h tk
theorem JN.j {e : Expr} {ns : List Int} (h : JN c env k e ns) : J c env k e (.l ns) := fun g tk Q K hQ => h g tk Q K fun a h' tk' st _ l => hQ _ _ _ st ⟨a, rfl, l⟩
theorem stays_push (h : Heap) (o : Obj) : h.StaysIn (h.push o) := fun _ _ e => Heap.get?_push_of_some _ e
theorem ints_of_den {h : Heap} {ns : List Int} : ∀ {vs : List Value}, DenAll h vs (ns.map .i) → IntsAre vs ns := by
  induction ns with
  | nil => intro vs d; rw [denN d]; exact .nil
  | cons n ns ih =>
    intro vs d
    obtain ⟨v, r, rfl, ⟨t, rfl⟩, d2⟩ := denC d
    exact .cons n t (ih d2)
theorem JN_list {es : List Expr} {pos : Pos} {ns : List Int} (hj : Js c env k es (ns.map .i)) (hsz : ns.length ≤ 1000) : JN c env k (.List es pos) ns := by
  intro h tk Q K hQ
  refine List_ (hj pos h tk _ K fun vs h' tk' st ds => ?_)
  have hv := ints_of_den ds
  refine wpAny_newObj_type (hQ h'.objs.size _ tk' (strans st (stays_push _ _)) (fresh_after st) ⟨vs, 0, Heap.get?_push_size _ rfl, hv⟩) ?_
  show vs.toArray.size ≤ sizeLine
  rw [List.size_toArray, hv.length, sizeLine_eq]; (first | lia | omega)
theorem foldl_rep (x : Value) : ∀ n : Nat, ∀ acc : Array Value, List.foldl (fun x1 x2 => x1 ++ x2) acc (List.replicate n #[x]) = acc ++ (List.replicate n x).toArray
  | 0, acc => by simp
  | n + 1, acc => by
    rw [List.replicate_succ, List.foldl_cons, foldl_rep x n]
    refine Array.toList_inj.mp ?_
    simp [List.replicate_succ]
theorem ints_rep (k : Int) (t : Tok) : ∀ n : Nat, IntsAre (List.replicate n (.int k t)) (List.replicate n k)
  | 0 => .nil
  | n + 1 => by rw [List.replicate_succ, List.replicate_succ]; exact .cons k t (ints_rep k t n)
theorem JN_mul {e1 e2 : Expr} {pos : Pos} {x n : Int} (h1 : JN c env k e1 [x]) (h2 : J c env k e2 (.i n)) (hn : n ≤ 1000) (hn0 : -(2 ^ 62) ≤ n) : JN c env k (.BinOp e1 .Mult e2 pos) (List.replicate n.toNat x) := by
  intro h tk Q K hQ
  refine wpAny_BinOp (h1 h tk _ K fun a h' tk' st _ l => h2 h' tk' _ (K.keeps st) fun u h'' tk'' st' d' => ?_)
  obtain ⟨t, rfl⟩ := d'
  obtain ⟨us, m, ho, hi⟩ := l.mono (.of_stays st')
  cases hi with
  | cons _ t' hnil =>
  cases hnil
  have ho' : (St c.s h'' tk'').heap.get? a = some { cls := .type "list", dict := none, data := .seq #[Value.int x t'] m, slots := #[] } := ho
  refine wpAny_binaryOp_repeat_ref (T := "list") (U := "int") (by decide) ⟨_, ho', rfl⟩ (fun s' => typeIs_int s' n t) noFill_list_mul F.fills_int_mul F.slot_int_rmul repeat_list F.slot_int_index.lookup ?_
  refine call_meets F.slot_int_rmul (typeIs_int _ n t) F.entry_int_rmul (F.args_int_rmul_2 _ _) (int___rmul___int_list n t a #[Value.int x t'] m) ⟨ho', rfl, ⟨_, ho', rfl⟩, ?_⟩
  refine call_meets F.slot_list_mul ⟨_, ho', rfl⟩ F.entry_list_mul (F.args_list_mul_2 _ _) (AutoListH.list___mul___list_int_3 a #[Value.int x t'] m n t (by simp [Builtin.List.listFitsIndex]; (first | lia | omega)) (by simp; (first | lia | omega)) (by simp [Builtin.List.listTooLong, sizeLine]; (first | lia | omega))) ⟨ho', ?_⟩
  have st2 := strans st st'
  refine hQ _ _ tk'' (strans st2 (stays_push _ _)) (fresh_after st2) ⟨List.replicate n.toNat (.int x t'), 0, ?_, ints_rep x t' _⟩
  rw [foldl_rep]
  have e : (#[] : Array Value) ++ (List.replicate n.toNat (Value.int x t')).toArray = (List.replicate n.toNat (Value.int x t')).toArray := by simp
  have e2 : (if (#[Value.int x t'] : Array Value).isEmpty = true then 0 else n.toNat) = n.toNat := by simp
  rw [e2, e]
  exact Heap.get?_push_size h'' rfl
theorem JN_add {e1 e2 : Expr} {pos : Pos} {ns ms : List Int} (h1 : J c env k e1 (.l ns)) (h2 : J c env k e2 (.l ms)) (hs : ns.length + ms.length ≤ 1000) : JN c env k (.BinOp e1 .Add e2 pos) (ns ++ ms) := by
  intro h tk Q K hQ
  refine wpAny_BinOp (h1 h tk _ K fun v h' tk' st d => h2 h' tk' _ (K.keeps st) fun u h'' tk'' st' d' => ?_)
  obtain ⟨a, rfl, us, n, ho, hi⟩ := Den.keeps st' d
  obtain ⟨b, rfl, ws, m, ho', hj⟩ := d'
  have st2 := strans st st'
  refine P.add_list (s := St c.s h'' tk'') ho ho' (hQ _ _ tk'' (strans st2 (stays_push _ _)) (fresh_after st2) ⟨us ++ ws, 0, ?_, hi.append hj⟩) ?_
  · have e : (us ++ ws).toArray = us.toArray ++ ws.toArray := by simp
    rw [e]
    exact Heap.get?_push_size h'' rfl
  · rw [List.size_toArray, List.size_toArray, hi.length, hj.length, sizeLine_eq]; (first | lia | omega)
theorem JN_upto {e1 e2 : Expr} {p pos : Pos} {ns : List Int} {i : Int} (h1 : J c env k e1 (.l ns)) (h2 : J c env k e2 (.i i)) (h0 : 0 ≤ i) (hlen : ns.length ≤ 1000)
    (hs : ∀ a b, subscripted (.Slice none (some e2) none p) false (.ref a) (.ref b) = operate [.ref b, .ref a] (getItem (.ref a) (.ref b)) := by intro _ _; with_unfolding_all rfl)
    (ht : ∀ a r, letTemporaryGo e1 (.ref a) r = pure () := by intro _ _; with_unfolding_all rfl) : JN c env k (.Subscript e1 (.Slice none (some e2) none p) pos) (ns.take i.toNat) := by
  intro h tk Q K hQ
  refine Subscript_ (h1 h tk _ K fun v h' tk' st d => ?_)
  refine wpAny_Slice ?_
  rw [evalPart_none, evalPart_some]
  refine wpAny_pure (h2 h' tk' _ (K.keeps st) fun u h'' tk'' st' d' => ?_)
  refine wpAny_pure ?_
  obtain ⟨t, rfl⟩ := d'
  obtain ⟨a, rfl, us, n, ho, hi⟩ := Den.keeps st' d
  have hl : (St c.s h'' tk'').heap.IsList a us.toArray := ⟨_, ho, rfl, n, rfl⟩
  refine slice_listK hl .none (.int i t) ?_ (hs a _) (ht a) (by rw [List.size_toArray, hi.length, sizeLine_eq]; (first | lia | omega))
  have st2 := strans st st'
  refine hQ _ _ tk'' (strans st2 (strans (stays_push _ _) (stays_push _ _))) ?_ ⟨(slicePick us.toArray none (some i) none).toList, 0, ?_, slice_ints_uptoW hi h0⟩
  · exact none_old st2 (Heap.get?_none_of_le (h := h'') (Nat.le_succ h''.objs.size))
  · have e : h''.objs.size + 1 = (h''.push { cls := .type "slice", data := .fields #[.none, .int i t, .none] }).objs.size := (Heap.size_push ..).symm
    show ((h''.push _).push _).get? (h''.objs.size + 1) = _
    rw [e, Array.toArray_toList]
    exact Heap.get?_push_size _ rfl
theorem J_g0 {e1 : Expr} {n : Nat} {p pos : Pos} {b : Bool} {ns : List Int} (h1 : J c env k e1 (.g b ns))
    (hs : ∀ a u, subscripted (.Constant (.int 0) n p) false (.ref a) (.int 0 u) = operate [.ref a, .int 0 u] (getItem (.ref a) (.int 0 u)) := by intro _ _; with_unfolding_all rfl) : J c env k (.Subscript e1 (.Constant (.int 0) n p) pos) (.b b) := by
  intro h tk Q K hQ
  refine Subscript_ (h1 h tk _ K fun v h' tk' st d => wpAny_Constant_int ?_)
  obtain ⟨a, rfl, la, m, ho, hl⟩ := d
  exact item_tupleT (l := [.bool b, .ref la]) (j := 0) ⟨_, ho, rfl, m, rfl⟩ (by decide) (by decide) rfl rfl (hQ _ h' (tk' + 1) st rfl) (hs _ _)
theorem J_g1 {e1 : Expr} {n : Nat} {p pos : Pos} {b : Bool} {ns : List Int} (h1 : J c env k e1 (.g b ns))
    (hs : ∀ a u, subscripted (.Constant (.int 1) n p) false (.ref a) (.int 1 u) = operate [.ref a, .int 1 u] (getItem (.ref a) (.int 1 u)) := by intro _ _; with_unfolding_all rfl) : J c env k (.Subscript e1 (.Constant (.int 1) n p) pos) (.l ns) := by
  intro h tk Q K hQ
  refine Subscript_ (h1 h tk _ K fun v h' tk' st d => wpAny_Constant_int ?_)
  obtain ⟨a, rfl, la, m, ho, hl⟩ := d
  exact item_tupleT (l := [.bool b, .ref la]) (j := 1) ⟨_, ho, rfl, m, rfl⟩ (by decide) (by decide) rfl rfl (hQ _ h' (tk' + 1) st ⟨la, rfl, hl⟩) (hs _ _)
theorem J_g {e1 e2 : Expr} {n : Nat} {pos : Pos} {b : Bool} {ns : List Int} (h1 : J c env k e1 (.b b)) (h2 : J c env k e2 (.l ns)) (hs1 : starEach [e1, e2] env = (false, eval e1 env) :: starEach [e2] env := by rfl) (hs2 : starEach [e2] env = (false, eval e2 env) :: starEach [] env := by rfl) :
    J c env k (.Tuple [e1, e2] n pos) (.g b ns) := by
  intro h tk Q K hQ
  refine Tuple_ (Js_cons h1 (Js_cons h2 Js_nil hs2) hs1 pos h tk _ K fun vs h' tk' st ds => ?_)
  obtain ⟨v, u, rfl, e1, a, e2, l⟩ := den2 ds
  cases e1; subst e2
  refine wpAny_newTuple (hQ _ _ tk' (strans st (stays_push _ _)) ⟨h'.objs.size, rfl, a, 0, Heap.get?_push_size _ rfl, l.mono (.of_stays (stays_push _ _))⟩) (by show 2 ≤ sizeLine; decide)
theorem J_max {p pos : Pos} {e1 e2 : Expr} {a b : Int} (eo : EO c env) (o : c.Ok D) (hf : Free "max") (h1 : J c env k e1 (.i a)) (h2 : J c env k e2 (.i b))
    (hs : starEach [e1, e2] env = (false, eval e1 env) :: starEach [e2] env := by rfl) (hs2 : starEach [e2] env = (false, eval e2 env) :: starEach [] env := by rfl) (hpl : (backTo pos (starEach [e2] env)).any (·.1) = false := by rfl) (hx : env.kindOf "max" = some .globalImplicit := by rfl) :
    J c env k (.Call (.Name "max" p) [e1, e2] [] pos) (.i (max a b)) := by
  refine J_bui eo o hf (by decide +kernel : bootBuiltins "max" = some (.builtin "max")) (Js_cons h1 (Js_cons h2 Js_nil hs2) hs) (fun h tk vs Q K ds hQ => ?_) (by decide) hx (by decide) hs hpl
  obtain ⟨v, u, rfl, ⟨t, e1⟩, t', e2⟩ := den2 ds
  subst e1; subst e2
  refine max_two_ints rfl fun h' tk' st => hQ _ h' tk' st ?_
  split
  · exact ⟨t', by rw [show max a b = b by (first | lia | omega)]⟩
  · exact ⟨t, by rw [show max a b = a by (first | lia | omega)]⟩

theorem B_unpack {x y : Str} {p1 p2 tp pos : Pos} {n : Nat} {e : Expr} {rest : List Stmt} {b : Bool} {ns : List Int} (eo : EO c env) (hj : J c env k e (.g b ns)) (hst : k.st = false) (hfd : k.fd = none) (hcx : c.cl.lookup x = none) (hcy : c.cl.lookup y = none)
    (hB : B c env ⟨k.st, (y, .l ns) :: (x, .b b) :: k.l, k.fd⟩ rest N res) (hx : env.kindOf x = some .local := by rfl) (hy : env.kindOf y = some .local := by rfl)
    (hs : swapsWithSole [.Tuple [.Name x p1, .Name y p2] n tp] e pos.line env = pure false := by rfl) (hw : swappedStores [.Tuple [.Name x p1, .Name y p2] n tp] e env = pure none := by rfl) :
    B c env k (.Assign [.Tuple [.Name x p1, .Name y p2] n tp] e pos :: rest) N res := by
  intro h tk Q K hn hr
  refine wpAny_execs_cons (Assign_Tuple (hj h tk _ K fun v h' tk' st d => ?_) hs hw)
  obtain ⟨a, rfl, la, m, ho, hl⟩ := d
  have hT : IsTup (St c.s h' tk').heap a #[.bool b, .ref la] := ⟨_, ho, rfl, m, rfl⟩
  refine assign_Tuple_tuple rfl hT rfl rfl fun h1 hs1 => ?_
  have st1 : h'.StaysIn h1 := fun b o e => hs1 b o (Nat.ne_of_lt (Heap.lt_size e)) e
  have st01 := strans st st1
  obtain ⟨mm, K1⟩ := K.keeps st01
  refine assignInOrder_cons (assign_Name (wpAny_storeName_local hx (by rw [eo.loc]; exact K1.F.ns) (fun h2 hn2 hs2 => ?_) (by rw [eo.kind]; rfl)))
  rw [eo.loc] at hn2 hs2
  have K2 := Kn.put (v := .bool b) (sv := .b b) K1 rfl (fun _ => rfl) (fun _ _ _ e => by rw [hfd] at e; cases e) hcx hn2 hs2
  have hl1 := hl.mono (.of_stays st1)
  have hl2 := hl1.mono (seqs_set K1.F.ns hs2)
  obtain ⟨mm2, K2'⟩ := K2
  refine assignInOrder_cons (assign_Name (wpAny_storeName_local hy (by rw [eo.loc]; exact K2'.F.ns) (fun h3 hn3 hs3 => ?_) (by rw [eo.kind]; rfl)))
  rw [eo.loc] at hn3 hs3
  have K3 := Kn.put (v := .ref la) (sv := .l ns) K2' ⟨la, rfl, hl2⟩ (fun e => by rw [hst] at e; cases e) (fun _ _ _ e => by rw [show (Know.mk k.st ((x, SV.b b) :: k.l) k.fd).fd = k.fd from rfl, hfd] at e; cases e) hcy hn3 hs3
  refine assignInOrder_nil ?_
  have st3 : StB c k h h3 := ((StB.of st01).trans (stb_set (k := k) hs2) (.inl rfl)).trans (stb_set (k := k) hs3) (.inl rfl)
  exact hB h3 _ Q K3 (fun k' e h4 tk4 st4 K4 => hn k' e h4 tk4 (st3.trans st4 (.inl rfl)) K4) fun v h4 tk4 st4 d4 => hr v h4 tk4 (st3.trans st4 (.inl rfl)) d4
end

section
variable {c : Cx} {env : Env} {k : Know} {N : Option Know} {res : Heap → Value → Prop} {D : Nat}
theorem B_append {x : Str} {p ap cp pos : Pos} {e : Expr} {rest : List Stmt} {a : Addr} {ns : List Int} {i : Int} {pl : Sem Bool} (eo : EO c env) (hfd : k.fd = some (x, a, ns)) (hj : J c env k e (.i i)) (hlen : ns.length ≤ 1000)
    (hB : B c env ⟨k.st, k.l, some (x, a, ns ++ [i])⟩ rest N res) (hx : env.kindOf x = some .local := by rfl) (hd : (x == ("__debug__" : Str)) = false := by decide)
    (hi : interactive env = false := by rfl) (hsw : swapsWith (.Call (.Attribute (.Name x p) "append" ap) [e] [] cp) none pos.line env = pure false := by rfl)
    (he : eval (.Call (.Attribute (.Name x p) "append" ap) [e] [] cp) env = (do
      let ov ← eval (.Name x p) env
      standAt ap.atName
      let (f, first) ← holding [ov] (getMethod ov "append" pl)
      callWith cp f first (backTo cp (starEach [e] env)) []) := by rfl)
    (hs : starEach [e] env = (false, eval e env) :: starEach [] env := by rfl) :
    B c env k (.Expr (.Call (.Attribute (.Name x p) "append" ap) [e] [] cp) pos :: rest) N res := by
  intro h tk Q K hn hr
  obtain ⟨m, KM⟩ := id K
  obtain ⟨hm, hh0, hcl, hst, us0, n0, ho0, _⟩ := KM.fd _ _ _ hfd
  refine wpAny_execs_cons (wpAny_Expr (MethodCall_ (wpAny_Name (wpAny_loadName_local eo.kind hx (by rw [eo.loc]; exact KM.F.ns) hm (Calls.getMethod_list_append ho0 rfl rfl ?_)) hd) he) hi hsw)
  refine callWith_method1 (first := [.ref a]) (Js_cons hj Js_nil hs cp h tk _ K fun vs h' tk' st ds => ?_) hs rfl
  obtain ⟨v, rfl, t, e1⟩ := den1 ds
  subst e1
  obtain ⟨m', K'⟩ := K.keeps st
  obtain ⟨hm', _, _, _, us, n, ho, hi'⟩ := K'.fd _ _ _ hfd
  refine append_at (s := St c.s h' tk') ho (fun h2 hs2 ho2 => ?_) (by rw [List.size_toArray, hi'.length, sizeLine_eq]; (first | lia | omega))
  have haL : a ≠ c.L := ns_ne K'.F.ns ho (nd_seq rfl)
  have e2 : us.toArray.push (.int i t) = (us ++ [Value.int i t]).toArray := by simp
  rw [e2] at ho2
  have K2 : Kn c ⟨k.st, k.l, some (x, a, ns ++ [i])⟩ h2 := by
    refine ⟨m', ⟨K'.F.ns.sameBut hs2 (Ne.symm haL), fun b o e => (hs2.2 b fun q => none_at hh0 q e).trans (K'.F.keep b o e), K'.F.above⟩, fun y u e => ?_, fun y a' ns' e => ?_, fun p hp => by rw [hcl] at hp; cases hp⟩
    · obtain ⟨v, hv, d⟩ := K'.l y u e
      refine ⟨v, ?_, ?_⟩
      · unfold Held at hv ⊢
        rw [hcl] at hv ⊢
        exact hv
      · dsimp only
        rw [hst] at d ⊢
        exact d
    · cases e
      exact ⟨hm', hh0, hcl, hst, us ++ [.int i t], n + 1, ho2, hi'.append (.cons i t .nil)⟩
  have st2 : StB c k h h2 := fun b o h1 h3 _ e => (hs2.2 b (h3 _ _ _ hfd)).trans (st b o e)
  have hadr : (Know.mk k.st k.l (some (x, a, ns ++ [i]))).adr = k.adr := by unfold Know.adr; rw [hfd]; rfl
  exact hB h2 _ Q K2 (fun k' e h3 tk3 st3 K3 => hn k' e h3 tk3 (st2.trans st3 (.inl hadr)) K3) fun v h3 tk3 st3 d3 => hr v h3 tk3 (st2.trans st3 (.inl hadr)) d3
theorem Kn.putfd {l : List (Str × SV)} {h h' : Heap} {m : Str → Option Value} {x : Str} {a : Addr} {ns : List Int} (K : KnM c ⟨true, l, none⟩ h m) (hl : LAt h a ns) (h0 : c.h₀.get? a = none) (hcl : c.cl = []) (hx : l.lookup x = none)
    (hn : h'.Ns c.L (fun y => if y = x then some (.ref a) else m y)) (hs : Heap.SameBut c.L h h') : Kn c ⟨true, l, some (x, a, ns)⟩ h' := by
  refine ⟨_, K.F.set hn hs, fun y u e => ?_, fun y a' ns' e => ?_, fun p hp => by rw [hcl] at hp; cases hp⟩
  · obtain ⟨v, hv, d⟩ := K.l y u e
    refine ⟨v, ?_, d⟩
    unfold Held at hv ⊢
    rw [hcl] at hv ⊢
    have : y ≠ x := fun q => by
      dsimp only at e
      rw [q, hx] at e; cases e
    exact (if_neg this).trans hv
  · cases e
    exact ⟨if_pos rfl, h0, hcl, rfl, hl.mono (seqs_set K.F.ns hs)⟩
noncomputable def JS (c : Cx) (env : Env) (k : Know) (e : Expr) (sv : SV) : Prop :=
  ∀ h tk (Q : Value → Shared → Prop), Kn c k h → (∀ v h' tk', h.StaysIn h' → Den h' v sv → (k.st = true → Den c.h₀ v sv) → Q v (St c.s h' tk')) → c.wp (eval e env) Q h tk
theorem JS_of {e : Expr} {sv : SV} (h : J c env k e sv) (hsc : k.st = true → sv.scalar = true) : JS c env k e sv := fun g tk Q K hQ => h g tk Q K fun v h' tk' st d => hQ v h' tk' st d fun e => d.scalar (hsc e)
theorem JS_name {x : Str} {pos : Pos} {sv : SV} (eo : EO c env) (e : k.l.lookup x = some sv) (hc : c.cl.lookup x = none) (hx : env.kindOf x = some .local := by rfl) (hd : (x == ("__debug__" : Str)) = false := by decide) : JS c env k (.Name x pos) sv := fun h tk Q K hQ => ex1 K fun m KM => by
  obtain ⟨v, hv, d⟩ := KM.l x sv e
  unfold Held at hv
  rw [hc] at hv
  refine wpAny_Name (wpAny_loadName_local eo.kind hx (by rw [eo.loc]; exact KM.F.ns) hv (hQ v h tk (srefl h) ?_ fun q => ?_)) hd
  · cases hs : k.st with
    | true => rw [hs] at d; exact d.keeps KM.F.keep
    | false => rw [hs] at d; exact d
  · rw [q] at d; exact d
theorem B_asg2 {x y : Str} {p1 p2 tp vp pos : Pos} {n1 n2 : Nat} {e1 e2 : Expr} {rest : List Stmt} {sv1 sv2 : SV} (eo : EO c env) (h1 : JS c env k e1 sv1) (h2 : JS c env k e2 sv2) (hfd : ∀ z a ns, k.fd = some (z, a, ns) → z ≠ x ∧ z ≠ y)
    (hcx : c.cl.lookup x = none) (hcy : c.cl.lookup y = none) (hB : B c env ⟨k.st, (x, sv1) :: (y, sv2) :: k.l, k.fd⟩ rest N res) (hx : env.kindOf x = some .local := by rfl) (hy : env.kindOf y = some .local := by rfl)
    (hs1 : starEach [e1, e2] env = (false, eval e1 env) :: starEach [e2] env := by rfl) (hs2 : starEach [e2] env = (false, eval e2 env) :: starEach [] env := by rfl)
    (hs : swapsWithSole [.Tuple [.Name x p1, .Name y p2] n1 tp] (.Tuple [e1, e2] n2 vp) pos.line env = pure false := by rfl) (hw : swappedStores [.Tuple [.Name x p1, .Name y p2] n1 tp] (.Tuple [e1, e2] n2 vp) env = pure (some [x, y]) := by rfl) :
    B c env k (.Assign [.Tuple [.Name x p1, .Name y p2] n1 tp] (.Tuple [e1, e2] n2 vp) pos :: rest) N res := by
  intro h tk Q K hn hr
  refine wpAny_execs_cons (Assign_Tuple_swapped (Tuple_ ?_) hs hw)
  rw [hs1]
  refine spliced_cons (h1 h tk _ K fun v h1 tk1 st1 d1 z1 => ?_)
  rw [hs2]
  refine spliced_cons (h2 h1 tk1 _ (K.keeps st1) fun u h' tk' st d2 z2 => spliced_nil ?_)
  refine wpAny_newTuple ?_ (by show 2 ≤ sizeLine; decide)
  have hT : IsTup (h'.push (tupOf [v, u] 0)) h'.objs.size #[v, u] := ⟨_, Heap.get?_push_size _ rfl, rfl, 0, rfl⟩
  refine unpackItems_tuple (items := #[v, u]) rfl hT fun h3 hs3 => ?_
  have stp := stays_push h' (tupOf [v, u] 0)
  have st3 : h'.StaysIn h3 := fun b o e => hs3 b o (Nat.ne_of_lt (Nat.lt_trans (Heap.lt_size e) (by show h'.objs.size < (h'.push (tupOf [v, u] 0)).objs.size; rw [Heap.size_push]; exact Nat.lt_succ_self _))) (stp b o e)
  have st03 := strans (strans st1 st) st3
  obtain ⟨mm, K3⟩ := K.keeps st03
  refine assignInOrder_cons (bindName_ (wpAny_storeName_local hy (by rw [eo.loc]; exact K3.F.ns) (fun h4 hn4 hs4 => ?_) (by rw [eo.kind]; rfl)))
  rw [eo.loc] at hn4 hs4
  obtain ⟨mm4, K4⟩ := Kn.put0 (v := u) (sv := sv2) K3 (d2.keeps st3) z2 (fun z a ns e => (hfd z a ns e).2) hcy hn4 hs4
  have d1' := ((d1.keeps st).keeps st3).mono (seqs_set K3.F.ns hs4)
  refine assignInOrder_cons (bindName_ (wpAny_storeName_local hx (by rw [eo.loc]; exact K4.F.ns) (fun h5 hn5 hs5 => ?_) (by rw [eo.kind]; rfl)))
  rw [eo.loc] at hn5 hs5
  have K5 := Kn.put0 (v := v) (sv := sv1) K4 d1' z1 (fun z a ns e => (hfd z a ns e).1) hcx hn5 hs5
  refine assignInOrder_nil ?_
  have st5 : StB c k h h5 := ((StB.of st03).trans (stb_set (k := k) hs4) (.inl rfl)).trans (stb_set (k := k) hs5) (.inl rfl)
  exact hB h5 _ Q K5 (fun k' e h4 tk4 st4 K4 => hn k' e h4 tk4 (st5.trans st4 (.inl rfl)) K4) fun v h4 tk4 st4 d4 => hr v h4 tk4 (st5.trans st4 (.inl rfl)) d4
theorem B_found3 {x y z : Str} {p1 p2 p3 tp vp pos : Pos} {n1 n2 : Nat} {e1 e2 e3 : Expr} {rest : List Stmt} {l : List (Str × SV)} {ns : List Int} {sv2 sv3 : SV} (eo : EO c env) (hcl : c.cl = []) (h1 : JN c env ⟨true, l, none⟩ e1 ns) (h2 : J c env ⟨true, l, none⟩ e2 sv2) (h3 : J c env ⟨true, l, none⟩ e3 sv3) (hsc : sv2.scalar = true ∧ sv3.scalar = true)
    (hl : ((y, sv2) :: (z, sv3) :: l).lookup x = none) (hB : ∀ a, B c env ⟨true, (y, sv2) :: (z, sv3) :: l, some (x, a, ns)⟩ rest N res)
    (hx : env.kindOf x = some .local := by rfl) (hy : env.kindOf y = some .local := by rfl) (hz : env.kindOf z = some .local := by rfl)
    (hs1 : starEach [e1, e2, e3] env = (false, eval e1 env) :: starEach [e2, e3] env := by rfl) (hs2 : starEach [e2, e3] env = (false, eval e2 env) :: starEach [e3] env := by rfl) (hs3 : starEach [e3] env = (false, eval e3 env) :: starEach [] env := by rfl)
    (hs : swapsWithSole [.Tuple [.Name x p1, .Name y p2, .Name z p3] n1 tp] (.Tuple [e1, e2, e3] n2 vp) pos.line env = pure false := by rfl) (hw : swappedStores [.Tuple [.Name x p1, .Name y p2, .Name z p3] n1 tp] (.Tuple [e1, e2, e3] n2 vp) env = pure (some [x, y, z]) := by rfl) :
    B c env ⟨true, l, none⟩ (.Assign [.Tuple [.Name x p1, .Name y p2, .Name z p3] n1 tp] (.Tuple [e1, e2, e3] n2 vp) pos :: rest) N res := by
  intro h tk Q K hn hr
  refine wpAny_execs_cons (Assign_Tuple_swapped (Tuple_ ?_) hs hw)
  rw [hs1]
  refine spliced_cons (h1 h tk _ K fun a h' tk' st hfr ha => ?_)
  refine Js_cons h2 (Js_cons h3 Js_nil hs3) hs2 vp h' tk' _ (K.keeps st) fun vs h'' tk'' st' ds => ?_
  obtain ⟨v, u, rfl, d2, d3⟩ := den2 ds
  refine wpAny_newTuple ?_ (by show 3 ≤ sizeLine; decide)
  have hT : IsTup (h''.push (tupOf [.ref a, v, u] 0)) h''.objs.size #[.ref a, v, u] := ⟨_, Heap.get?_push_size _ rfl, rfl, 0, rfl⟩
  refine unpackItems_tuple (items := #[.ref a, v, u]) rfl hT fun h3 hs3 => ?_
  have stp := stays_push h'' (tupOf [.ref a, v, u] 0)
  have st3 : h''.StaysIn h3 := fun b o e => hs3 b o (Nat.ne_of_lt (Nat.lt_trans (Heap.lt_size e) (by show h''.objs.size < (h''.push (tupOf [.ref a, v, u] 0)).objs.size; rw [Heap.size_push]; exact Nat.lt_succ_self _))) (stp b o e)
  have st03 := strans (strans st st') st3
  have hcx : ∀ q, c.cl.lookup q = none := fun q => by rw [hcl]; rfl
  obtain ⟨mm, K3⟩ := K.keeps st03
  refine assignInOrder_cons (bindName_ (wpAny_storeName_local hz (by rw [eo.loc]; exact K3.F.ns) (fun h4 hn4 hs4 => ?_) (by rw [eo.kind]; rfl)))
  rw [eo.loc] at hn4 hs4
  obtain ⟨mm4, K4⟩ := Kn.put (v := u) (sv := sv3) K3 (d3.keeps st3) (fun _ => hsc.2) (fun _ _ _ e => nomatch e) (hcx _) hn4 hs4
  refine assignInOrder_cons (bindName_ (wpAny_storeName_local hy (by rw [eo.loc]; exact K4.F.ns) (fun h5 hn5 hs5 => ?_) (by rw [eo.kind]; rfl)))
  rw [eo.loc] at hn5 hs5
  obtain ⟨mm5, K5⟩ := Kn.put (v := v) (sv := sv2) K4 ((d2.keeps st3).scalar hsc.1) (fun _ => hsc.1) (fun _ _ _ e => nomatch e) (hcx _) hn5 hs5
  refine assignInOrder_cons (bindName_ (wpAny_storeName_local hx (by rw [eo.loc]; exact K5.F.ns) (fun h6 hn6 hs6 => ?_) (by rw [eo.kind]; rfl)))
  rw [eo.loc] at hn6 hs6
  have h0 : c.h₀.get? a = none := ex1 K fun _ K0 => none_old K0.F.keep hfr
  have ha5 := ((ha.mono (.of_stays (strans st' st3))).mono (seqs_set K3.F.ns hs4)).mono (seqs_set K4.F.ns hs5)
  have K6 := Kn.putfd (x := x) K5 ha5 h0 hcl hl hn6 hs6
  refine assignInOrder_nil ?_
  have st6 : StB c ⟨true, l, none⟩ h h6 := (((StB.of st03).trans (stb_set (k := ⟨true, l, none⟩) hs4) (.inl rfl)).trans (stb_set (k := ⟨true, l, none⟩) hs5) (.inl rfl)).trans (stb_set (k := ⟨true, l, none⟩) hs6) (.inl rfl)
  have hadr : ∀ a', (Know.mk true ((y, sv2) :: (z, sv3) :: l) (some (x, a, ns))).adr = some a' → h.get? a' = none := fun a' e => by cases e; exact hfr
  exact hB a h6 _ Q K6 (fun k' e h4 tk4 st4 K4 => hn k' e h4 tk4 (st6.trans st4 (.inr hadr)) K4) fun v h4 tk4 st4 d4 => hr v h4 tk4 (st6.trans st4 (.inr hadr)) d4
theorem B_found1 {x : Str} {p1 pos : Pos} {e1 : Expr} {rest : List Stmt} {l : List (Str × SV)} {ns : List Int} (eo : EO c env) (hcl : c.cl = []) (h1 : JN c env ⟨true, l, none⟩ e1 ns)
    (hl : l.lookup x = none) (hB : ∀ a, B c env ⟨true, l, some (x, a, ns)⟩ rest N res) (hx : env.kindOf x = some .local := by rfl) (hs : swapsWith e1 (some (.Name x p1)) pos.line env = pure false := by rfl) :
    B c env ⟨true, l, none⟩ (.Assign [.Name x p1] e1 pos :: rest) N res := by
  intro h tk Q K hn hr
  refine wpAny_execs_cons (wpAny_Assign_Name (h1 h tk _ K fun a h' tk' st hfr ha => ?_) hs)
  obtain ⟨mm, K3⟩ := K.keeps st
  refine wpAny_storeName_local hx (by rw [eo.loc]; exact K3.F.ns) (fun h6 hn6 hs6 => ?_) (by rw [eo.kind]; rfl)
  rw [eo.loc] at hn6 hs6
  have h0 : c.h₀.get? a = none := ex1 K fun _ K0 => none_old K0.F.keep hfr
  have K6 := Kn.putfd (x := x) K3 ha h0 hcl hl hn6 hs6
  have st6 : StB c ⟨true, l, none⟩ h h6 := (StB.of st).trans (stb_set (k := ⟨true, l, none⟩) hs6) (.inl rfl)
  have hadr : ∀ a', (Know.mk true l (some (x, a, ns))).adr = some a' → h.get? a' = none := fun a' e => by cases e; exact hfr
  exact hB a h6 _ Q K6 (fun k' e h4 tk4 st4 K4 => hn k' e h4 tk4 (st6.trans st4 (.inr hadr)) K4) fun v h4 tk4 st4 d4 => hr v h4 tk4 (st6.trans st4 (.inr hadr)) d4
end
section
variable {c : Cx}
theorem iop_add {a b : Int} : Op c (inplaceOp .Add) (.i a) (.i b) (.i (a + b)) := by
  rintro h tk Q v u ⟨t, rfl⟩ ⟨t', rfl⟩ hQ; exact iadd_int (hQ _ h (tk + 1) (srefl h) ⟨_, rfl⟩)
theorem iop_or {a b : Int} : Op c (inplaceOp .BitOr) (.i a) (.i b) (.i (Builtin.bitOr a b)) := by
  rintro h tk Q v u ⟨t, rfl⟩ ⟨t', rfl⟩ hQ; exact ior_int (hQ _ h (tk + 1) (srefl h) ⟨_, rfl⟩)
theorem iop_shr {a b : Int} (hb : 0 ≤ b) : Op c (inplaceOp .RShift) (.i a) (.i b) (.i (a.fdiv (2 ^ b.toNat))) := by
  rintro h tk Q v u ⟨t, rfl⟩ ⟨t', rfl⟩ hQ; exact irshift_int hb (hQ _ h (tk + 1) (srefl h) ⟨_, rfl⟩)
end
section
variable {c : Cx} {env : Env} {k : Know}
theorem iop_shrN {a : Int} {n : Nat} : Op c (inplaceOp .RShift) (.i a) (.i n) (.i (a / 2 ^ n)) := by
  have h : Op c (inplaceOp .RShift) (.i a) (.i n) (.i (a.fdiv (2 ^ (n : Int).toNat))) := iop_shr (by first | (with_reducible assumption) | (with_reducible exact Nat.le_trans (by assumption) (by decide)) | (with_reducible exact b0 (by assumption)) | (with_reducible exact b1 (by assumption)) | (with_reducible exact b2 (by assumption)) | (with_reducible exact Int.le_of_lt (by assumption)) | (with_reducible exact Nat.le_of_lt (by assumption)) | (with_reducible exact Int.natCast_nonneg _) | (with_reducible exact Int.le_of_lt (Int.pow_pos (by decide))) | (with_reducible exact Int.pow_pos (by decide)) | (with_reducible exact Nat.lt_of_lt_of_le (by decide) (by assumption)) | (with_reducible exact Int.ne_of_gt (by assumption)) | lia | omega)
  rwa [Int.toNat_natCast, Int.fdiv_eq_ediv_of_nonneg _ (Int.le_of_lt (Int.pow_pos (by decide)))] at h
theorem op_shrN {a : Int} {n : Nat} : Op c (binaryOp .RShift) (.i a) (.i n) (.i (a / 2 ^ n)) := by
  have h : Op c (binaryOp .RShift) (.i a) (.i n) (.i (a.fdiv (2 ^ (n : Int).toNat))) := op_shr (by first | (with_reducible assumption) | (with_reducible exact Nat.le_trans (by assumption) (by decide)) | (with_reducible exact b0 (by assumption)) | (with_reducible exact b1 (by assumption)) | (with_reducible exact b2 (by assumption)) | (with_reducible exact Int.le_of_lt (by assumption)) | (with_reducible exact Nat.le_of_lt (by assumption)) | (with_reducible exact Int.natCast_nonneg _) | (with_reducible exact Int.le_of_lt (Int.pow_pos (by decide))) | (with_reducible exact Int.pow_pos (by decide)) | (with_reducible exact Nat.lt_of_lt_of_le (by decide) (by assumption)) | (with_reducible exact Int.ne_of_gt (by assumption)) | lia | omega)
  rwa [Int.toNat_natCast, Int.fdiv_eq_ediv_of_nonneg _ (Int.le_of_lt (Int.pow_pos (by decide)))] at h
theorem op_shlN {a : Int} {n : Nat} (hs : (Builtin.Int.intBits a : Int) + (n : Int) ≤ 2 ^ 27) : Op c (binaryOp .LShift) (.i a) (.i n) (.i (a * 2 ^ n)) := by
  have h : Op c (binaryOp .LShift) (.i a) (.i n) (.i (a * 2 ^ (n : Int).toNat)) := op_shl (by first | (with_reducible assumption) | (with_reducible exact Nat.le_trans (by assumption) (by decide)) | (with_reducible exact b0 (by assumption)) | (with_reducible exact b1 (by assumption)) | (with_reducible exact b2 (by assumption)) | (with_reducible exact Int.le_of_lt (by assumption)) | (with_reducible exact Nat.le_of_lt (by assumption)) | (with_reducible exact Int.natCast_nonneg _) | (with_reducible exact Int.le_of_lt (Int.pow_pos (by decide))) | (with_reducible exact Int.pow_pos (by decide)) | (with_reducible exact Nat.lt_of_lt_of_le (by decide) (by assumption)) | (with_reducible exact Int.ne_of_gt (by assumption)) | lia | omega) hs
  rwa [Int.toNat_natCast] at h
theorem one_shl {n : Nat} (hn : n ≤ 1000) : Op c (binaryOp .LShift) (.i 1) (.i n) (.i (2 ^ n)) := by
  have h : Op c (binaryOp .LShift) (.i 1) (.i n) (.i (1 * 2 ^ n)) := op_shlN (by
    have : Builtin.Int.intBits 1 = 1 := by decide
    rw [this]; (first | lia | omega))
  rwa [Int.one_mul] at h
theorem op_mask {a : Int} {n : Nat} : Op c (binaryOp .BitAnd) (.i a) (.i (2 ^ n - 1)) (.i (a % 2 ^ n)) := by
  have h : Op c (binaryOp .BitAnd) (.i a) (.i (2 ^ n - 1)) (.i (Builtin.bitAnd a (2 ^ n - 1))) := op_and
  rwa [kbt_mask] at h
theorem J_at {e1 e2 : Expr} {pos : Pos} {ns : List Int} {i : Nat} (h1 : J c env k e1 (.l ns)) (h2 : J c env k e2 (.i i)) (hlt : i < ns.length) (hlen : ns.length ≤ 100000)
    (hs : ∀ a u, subscripted e2 false (.ref a) (.int i u) = operate [.ref a, .int i u] (getItem (.ref a) (.int i u)) := by intro _ _; with_unfolding_all rfl) (hg : ∀ a r, letTemporaryGo e1 (.ref a) r = pure () := by intro _ _; with_unfolding_all rfl) :
    J c env k (.Subscript e1 e2 pos) (.i (ns.getD i 0)) := by
  have h := J_item (pos := pos) h1 h2 (by first | (with_reducible assumption) | (with_reducible exact Nat.le_trans (by assumption) (by decide)) | (with_reducible exact b0 (by assumption)) | (with_reducible exact b1 (by assumption)) | (with_reducible exact b2 (by assumption)) | (with_reducible exact Int.le_of_lt (by assumption)) | (with_reducible exact Nat.le_of_lt (by assumption)) | (with_reducible exact Int.natCast_nonneg _) | (with_reducible exact Int.le_of_lt (Int.pow_pos (by decide))) | (with_reducible exact Int.pow_pos (by decide)) | (with_reducible exact Nat.lt_of_lt_of_le (by decide) (by assumption)) | (with_reducible exact Int.ne_of_gt (by assumption)) | lia | omega) (by first | (with_reducible assumption) | (with_reducible exact Nat.le_trans (by assumption) (by decide)) | (with_reducible exact b0 (by assumption)) | (with_reducible exact b1 (by assumption)) | (with_reducible exact b2 (by assumption)) | (with_reducible exact Int.le_of_lt (by assumption)) | (with_reducible exact Nat.le_of_lt (by assumption)) | (with_reducible exact Int.natCast_nonneg _) | (with_reducible exact Int.le_of_lt (Int.pow_pos (by decide))) | (with_reducible exact Int.pow_pos (by decide)) | (with_reducible exact Nat.lt_of_lt_of_le (by decide) (by assumption)) | (with_reducible exact Int.ne_of_gt (by assumption)) | lia | omega) hlen hs hg
  rwa [Int.toNat_natCast] at h
end
theorem It_range2N {c : Cx} {env : Env} {k : Know} {D : Nat} {p pos : Pos} {e1 e2 : Expr} {a b n : Nat} (eo : EO c env) (o : c.Ok D) (hf : Free "range") (h1 : J c env k e1 (.i a)) (h2 : J c env k e2 (.i b)) (ha : a ≤ 100000) (hb : b ≤ 100000) (hn : n = b - a)
    (hs : starEach [e1, e2] env = (false, eval e1 env) :: starEach [e2] env := by rfl) (hs2 : starEach [e2] env = (false, eval e2 env) :: starEach [] env := by rfl) (hpl : (backTo pos (starEach [e2] env)).any (·.1) = false := by rfl) (hx : env.kindOf "range" = some .globalImplicit := by rfl) :
    It c env k (.Call (.Name "range" p) [e1, e2] [] pos) n (fun i => .i ((a + i : Nat) : Int)) := by
  have h := It_range2 (n := n) (p := p) (pos := pos) eo o hf h1 h2 (Int.natCast_nonneg _) (Int.lt_of_le_of_lt (Int.ofNat_le.mpr ha) (by decide)) (Int.natCast_nonneg _) (Int.lt_of_le_of_lt (Int.ofNat_le.mpr hb) (by decide)) (by rw [hn, Int.toNat_sub]) hs hs2 hpl hx
  have e : (fun i : Nat => SV.i ((a : Int) + i)) = fun i : Nat => SV.i ((a + i : Nat) : Int) := by funext i; congr 1
  rwa [e] at h
theorem J_neg {c : Cx} {env : Env} {k : Know} {e : Expr} {pos : Pos} {a : Int} (h : J c env k e (.i a)) : J c env k (.UnaryOp .USub e pos) (.i (-a)) := by
  intro g tk Q K hQ
  refine wpAny_UnaryOp (h g tk _ K fun v h' tk' st d => ?_)
  obtain ⟨t, rfl⟩ := d
  exact PyProof.Rows.neg_int (hQ _ h' (tk' + 1) st ⟨_, rfl⟩)
theorem iop_sub {c : Cx} {a b : Int} : Op c (inplaceOp .Sub) (.i a) (.i b) (.i (a - b)) := by
  rintro h tk Q v u ⟨t, rfl⟩ ⟨t', rfl⟩ hQ; exact isub_int (hQ _ h (tk + 1) (srefl h) ⟨_, rfl⟩)
section
variable {c : Cx}
theorem op_divN {a b : Nat} (hb : 0 < b) (hb2 : b < 1000000) : Op c (binaryOp .FloorDiv) (.i a) (.i b) (.i ((a / b : Nat) : Int)) := by
  have h : Op c (binaryOp .FloorDiv) (.i a) (.i b) (.i ((a : Int).fdiv b)) := op_div (by first | (with_reducible assumption) | (with_reducible exact Nat.le_trans (by assumption) (by decide)) | (with_reducible exact b0 (by assumption)) | (with_reducible exact b1 (by assumption)) | (with_reducible exact b2 (by assumption)) | (with_reducible exact Int.le_of_lt (by assumption)) | (with_reducible exact Nat.le_of_lt (by assumption)) | (with_reducible exact Int.natCast_nonneg _) | (with_reducible exact Int.le_of_lt (Int.pow_pos (by decide))) | (with_reducible exact Int.pow_pos (by decide)) | (with_reducible exact Nat.lt_of_lt_of_le (by decide) (by assumption)) | (with_reducible exact Int.ne_of_gt (by assumption)) | lia | omega) (PyProof.noPylong_small (by first | (with_reducible assumption) | (with_reducible exact Nat.le_trans (by assumption) (by decide)) | (with_reducible exact b0 (by assumption)) | (with_reducible exact b1 (by assumption)) | (with_reducible exact b2 (by assumption)) | (with_reducible exact Int.le_of_lt (by assumption)) | (with_reducible exact Nat.le_of_lt (by assumption)) | (with_reducible exact Int.natCast_nonneg _) | (with_reducible exact Int.le_of_lt (Int.pow_pos (by decide))) | (with_reducible exact Int.pow_pos (by decide)) | (with_reducible exact Nat.lt_of_lt_of_le (by decide) (by assumption)) | (with_reducible exact Int.ne_of_gt (by assumption)) | lia | omega))
  rwa [Int.fdiv_eq_ediv_of_nonneg _ (by first | (with_reducible assumption) | (with_reducible exact Nat.le_trans (by assumption) (by decide)) | (with_reducible exact b0 (by assumption)) | (with_reducible exact b1 (by assumption)) | (with_reducible exact b2 (by assumption)) | (with_reducible exact Int.le_of_lt (by assumption)) | (with_reducible exact Nat.le_of_lt (by assumption)) | (with_reducible exact Int.natCast_nonneg _) | (with_reducible exact Int.le_of_lt (Int.pow_pos (by decide))) | (with_reducible exact Int.pow_pos (by decide)) | (with_reducible exact Nat.lt_of_lt_of_le (by decide) (by assumption)) | (with_reducible exact Int.ne_of_gt (by assumption)) | lia | omega), ← Int.natCast_ediv] at h
theorem op_modN {a b : Nat} (hb : 0 < b) : Op c (binaryOp .Mod) (.i a) (.i b) (.i ((a % b : Nat) : Int)) := by
  have h : Op c (binaryOp .Mod) (.i a) (.i b) (.i ((a : Int).fmod b)) := op_mod (by first | (with_reducible assumption) | (with_reducible exact Nat.le_trans (by assumption) (by decide)) | (with_reducible exact b0 (by assumption)) | (with_reducible exact b1 (by assumption)) | (with_reducible exact b2 (by assumption)) | (with_reducible exact Int.le_of_lt (by assumption)) | (with_reducible exact Nat.le_of_lt (by assumption)) | (with_reducible exact Int.natCast_nonneg _) | (with_reducible exact Int.le_of_lt (Int.pow_pos (by decide))) | (with_reducible exact Int.pow_pos (by decide)) | (with_reducible exact Nat.lt_of_lt_of_le (by decide) (by assumption)) | (with_reducible exact Int.ne_of_gt (by assumption)) | lia | omega)
  rwa [Int.fmod_eq_emod_of_nonneg _ (by first | (with_reducible assumption) | (with_reducible exact Nat.le_trans (by assumption) (by decide)) | (with_reducible exact b0 (by assumption)) | (with_reducible exact b1 (by assumption)) | (with_reducible exact b2 (by assumption)) | (with_reducible exact Int.le_of_lt (by assumption)) | (with_reducible exact Nat.le_of_lt (by assumption)) | (with_reducible exact Int.natCast_nonneg _) | (with_reducible exact Int.le_of_lt (Int.pow_pos (by decide))) | (with_reducible exact Int.pow_pos (by decide)) | (with_reducible exact Nat.lt_of_lt_of_le (by decide) (by assumption)) | (with_reducible exact Int.ne_of_gt (by assumption)) | lia | omega), ← Int.natCast_emod] at h
end

structure Drw (c : Cx) (h h' : Heap) (I : Addr) (target : Expr) (xs : List Str) (n : Nat) (bd : Nat → List (Str × Int)) (fp wr : List Addr) (St : Nat → Heap → Prop) : Prop where
  low : ∀ b ∈ fp, b < h'.objs.size
  sub : ∀ b ∈ wr, b ∈ fp
  new : ∀ b ∈ wr, h.get? b = none
  frame : ∀ i g g', St i g → (∀ b ∈ fp, ∀ o, g.get? b = some o → g'.get? b = some o) → St i g'
  live : ∀ i g, St i g → ∀ b ∈ wr, ∃ o, g.get? b = some o
  st : St 0 h'
  item : ∀ i (s : Shared) (e : Env) (m : Str → Option Value) (Q : Unit → Shared → Prop) (R : Shared → Prop) (E : Value → Shared → Prop), i < n → St i s.heap → s.heap.Ns e.locals m → e.locals ∉ fp → e.scope.kind = .function → (∀ x ∈ xs, e.kindOf x = some .local) →
    (∀ g tk m', St (i + 1) g → g.Ns e.locals m' → (∀ x v, (bd i).lookup x = some v → ∃ t, m' x = some (.int v t)) → (∀ b o, b ∉ wr → b ≠ e.locals → s.heap.get? b = some o → g.get? b = some o) → Q () { s with heap := g, toks := tk }) →
    wpAny (model prg c.w) c.A (pyNext (.ref I)) (fun r s₁ => match r with
      | none => R s₁
      | some v => wpAny (model prg c.w) c.A (letOwnedTupleGo target (.ref I) v) (fun _ s₂ => wpAny (model prg c.w) c.A (assign target e v) Q E s₂) E s₁) E s
  done : ∀ (s : Shared) (Q : Option Value → Shared → Prop) (E : Value → Shared → Prop), St n s.heap → (∀ g tk, (∀ b o, b ∉ wr → s.heap.get? b = some o → g.get? b = some o) → Q none { s with heap := g, toks := tk }) → wpAny (model prg c.w) c.A (pyNext (.ref I)) Q E s
  self : ∀ i (s : Shared) (Q : Value → Shared → Prop) (E : Value → Shared → Prop), St i s.heap → Q (.ref I) s → wpAny (model prg c.w) c.A (pyIter (.ref I)) Q E s
noncomputable def Src (c : Cx) (env : Env) (k : Know) (iter target : Expr) (xs : List Str) (n : Nat) (bd : Nat → List (Str × Int)) : Prop :=
  ∀ h tk (Q : Value → Shared → Prop), Kn c k h → (∀ I h' tk' fp wr S, h.StaysIn h' → Drw c h h' I target xs n bd fp wr S → Q (.ref I) (St c.s h' tk')) →
    c.wp (eval iter env) (fun xv s₁ => wpAny (model prg c.w) c.A (pyIter xv) Q (fun _ _ => False) s₁) h tk
section
variable {c : Cx} {env : Env} {k : Know} {N : Option Know} {D : Nat}
theorem look_ints {x : Str} {sv : SV} {l : List (Str × SV)} : ∀ {b : List (Str × Int)}, (b.map (fun p => (p.1, SV.i p.2)) ++ l).lookup x = some sv → (∃ v, b.lookup x = some v ∧ sv = .i v) ∨ l.lookup x = some sv
  | [], e => .inr e
  | (y, v) :: r, e => by
    rw [List.map_cons, List.cons_append, List.lookup_cons] at e
    rw [List.lookup_cons]
    cases hy : x == y with
    | true => rw [hy] at e; cases e; exact .inl ⟨v, rfl, rfl⟩
    | false => rw [hy] at e; exact look_ints e
theorem JR_comp {elt iter target : Expr} {scope : Scope} {pos : Pos} {xs : List Str} {n : Nat} {bd : Nat → List (Str × Int)} (RE : Nat → Heap → Heap → Value → Prop) (l : List (Str × SV)) (o : c.Ok D) (eo : EO c env) (hsrc : Src c env k iter target xs n bd) (hn : n ≤ 1000)
    (hst : ∀ i hb g g' v, RE i hb g v → (∀ b ob, hb.get? b = none → g.get? b = some ob → g'.get? b = some ob) → RE i hb g' v)
    (he : ∀ i, i < n → ∀ c' : Cx, c'.Ok D → c'.cl = c.cl → c'.w = c.w → c'.mean = c.mean → c'.mg = c.mg → c'.mb = c.mb → EO c' (compEnvC scope c.cl c'.L env) → JR c' (compEnvC scope c.cl c'.L env) ⟨false, (bd i).map (fun p => (p.1, .i p.2)) ++ l, none⟩ elt (RE i))
    (hl : ∀ y sv, l.lookup y = some sv → k.l.lookup y = some sv ∧ (c.cl.lookup y).isSome = true) (hbx : ∀ i y v, (bd i).lookup y = some v → c.cl.lookup y = none)
    (hclos : closureFor scope env = pure c.cl)
    (hcell : ∀ y ∈ scope.names, y.2 ≠ .cell := by decide) (hkind : scope.kind = .function := by rfl) (hnames : ∀ y ∈ scope.names, y.2 = .local → scope.names.lookup y.1 = some .local := by decide) (hx : ∀ x ∈ xs, scope.names.lookup x = some .local := by decide)
    (hs : ∀ x, foldedSetIterable iter env x = pure x := by intro _; rfl) :
    JR c env k (.ListComp elt [⟨target, iter, [], 0⟩] scope pos) (fun h h' v => ∃ (a : Addr) (ys : List Value), v = .ref a ∧ h.get? a = none ∧ h'.get? a = some (listOf ys.toArray ys.length) ∧ ys.length = n ∧ ∀ (i : Nat) (y : Value), ys[i]? = some y → ∃ hb, (∀ b ob, h.get? b = some ob → hb.get? b = some ob) ∧ (∃ ob, hb.get? a = some ob) ∧ RE i hb h' y) := by
  intro h tk Q K hQ
  rw [eval_ListComp]
  refine wpAny_comprehension_free (use := none) rfl hs hclos hkind hnames (hsrc h tk _ K fun I h2 tk2 fp wr S st W => ?_)
  refine wpAny_newObj_type (wpAny_newFunctionEnv hcell (by intro y hy; simp at hy) (fun h₁ hns₁ hsb₁ => ?_) hkind)
  dsimp only at hns₁ hsb₁ ⊢
  generalize hH2 : (St c.s h2 tk2).heap.push { cls := .type "list", dict := none, data := .seq ([] : List Value).toArray } = H2 at hns₁ hsb₁ ⊢
  have hC : H2.objs.size = h2.objs.size + 1 := by rw [← hH2, Heap.size_push]; rfl
  have hDC : h2.objs.size ≠ H2.objs.size := by rw [hC]; exact Nat.ne_of_lt (Nat.lt_succ_self _)
  have below : ∀ b, b < h2.objs.size → b ≠ H2.objs.size ∧ b ≠ h2.objs.size := fun b hb => ⟨by rw [hC]; exact Nat.ne_of_lt (Nat.lt_succ_of_lt hb), Nat.ne_of_lt hb⟩
  have hDf : h2.objs.size ∉ fp := fun hm => Nat.lt_irrefl _ (W.low _ hm)
  have hCf : H2.objs.size ∉ fp := fun hm => by have := W.low _ hm; rw [hC] at this; exact Nat.lt_irrefl _ (Nat.lt_of_succ_lt this)
  have old : ∀ b ob, h2.get? b = some ob → h₁.get? b = some ob := fun b ob e => hsb₁.extBut b ob (below b (Heap.lt_size e)).1 (Heap.get?_push_of_some _ (hH2 ▸ Heap.get?_push_of_some _ e))
  have hacc : h₁.get? h2.objs.size = some (LCg.lst []) := hsb₁.extBut _ _ hDC (Heap.get?_push_of_some _ (hH2 ▸ Heap.get?_push_size _ rfl))
  have hst₁ : S 0 h₁ := W.frame _ _ _ W.st fun b _ ob e => old b ob e
  have loop : ∀ s₃ : Shared, s₃ = St c.s h₁ (tk2 + ([] : List (Str × Value)).length) →
      codeAny (model prg c.w) c.A (.compLoop (.ListComp elt [⟨target, iter, [], 0⟩] scope pos) 0 (.ref I) (.ref h2.objs.size) (compEnvC scope c.cl H2.objs.size env)) (compPost (model prg c.w) c.A (fun _ _ => False) none Q (.ref h2.objs.size) H2.objs.size) s₃ := by
    rintro s₃ rfl
    refine kcp_loop
      (fun k s' => ∃ g tk i ys m', s' = St c.s g tk ∧ i ≤ n ∧ k = n + 1 - i ∧ ys.length = i ∧ S i g ∧ g.Ns H2.objs.size m' ∧ g.get? h2.objs.size = some (LCg.lst ys) ∧ (∀ b ob, b ∉ wr → h2.get? b = some ob → g.get? b = some ob) ∧
        ∀ (j : Nat) (y : Value), ys[j]? = some y → ∃ hb, (∀ b ob, b ∉ wr → h2.get? b = some ob → hb.get? b = some ob) ∧ (∀ b, b ∈ wr ∨ b = H2.objs.size ∨ b = h2.objs.size → ∃ ob, hb.get? b = some ob) ∧ RE j hb g y) ?_ (n + 1)
      (mk5 h₁ _ 0 [] _ ⟨rfl, Nat.zero_le _, rfl, rfl, hst₁, hns₁, hacc, fun b ob _ e => old b ob e, fun _ _ e => nomatch e⟩)
    refine fun k' s' hI => ex5 hI fun g tk i ys m' hz => an9 hz fun e1 hi e2 hyl hS hnC hD hk hE => ?_
    clear hz hI
    subst e1; subst e2
    by_cases hlt : i < n
    · refine W.item i _ (compEnvC scope c.cl H2.objs.size env) m' _ _ _ hlt hS hnC hCf (by simp [compEnvC, relabel, hkind]) (fun x hxm => lookup_relabel_local (hx x hxm)) fun g3 tk3 m3 hS3 hn3 hb3 hk3 => ?_
      have kp3 : ∀ b ob, b ∉ wr → h2.get? b = some ob → g3.get? b = some ob := fun b ob hb e => hk3 b ob hb (below b (Heap.lt_size e)).1 (hk b ob hb e)
      have kph : ∀ b ob, h.get? b = some ob → g3.get? b = some ob := fun b ob e => kp3 b ob (fun hb => none_at (W.new b hb) rfl e) (st b ob e)
      obtain ⟨m₁, K1⟩ := K
      let c' : Cx := { c with L := H2.objs.size, s := St c.s g3 tk3 }
      have hLsz : c.L < h2.objs.size := by obtain ⟨oL, _, _, eL, _⟩ := K1.F.ns; exact Heap.lt_size (st _ _ eL)
      have F' : Fr c'.h₀ H2.objs.size g3 m3 := ⟨hn3, fun b ob e => kph b ob (K1.F.keep b ob e), Nat.le_trans K1.F.above (by rw [hC]; exact Nat.le_of_lt (Nat.lt_succ_of_lt hLsz))⟩
      have K' : Kn c' ⟨false, (bd i).map (fun p => (p.1, .i p.2)) ++ l, none⟩ g3 := by
        refine ⟨m3, F', fun y sv e => ?_, (fun _ _ _ e => nomatch e), fun p hp => ?_⟩
        · rcases look_ints e with ⟨v, e1, rfl⟩ | e
          · obtain ⟨t, ht⟩ := hb3 y v e1
            exact ⟨_, by unfold Held; show (match c.cl.lookup y with | none => _ | some a => _); rw [hbx i y v e1]; exact ht, t, rfl⟩
          · obtain ⟨e1, e2⟩ := hl y sv e
            obtain ⟨u, hu, d⟩ := K1.den e1
            refine ⟨u, ?_, d.keeps kph⟩
            unfold Held at hu ⊢
            show (match c.cl.lookup y with | none => _ | some a => _)
            cases hq : c.cl.lookup y with
            | none => rw [hq] at e2; cases e2
            | some a' => rw [hq] at hu; obtain ⟨o', ho', r'⟩ := hu; exact ⟨o', kph _ _ ho', r'⟩
        · obtain ⟨h1', v', o', e', r'⟩ := K1.cl p hp
          exact ⟨h1', v', o', kph _ _ e', r'⟩
      have hD3 : g3.get? h2.objs.size = some (LCg.lst ys) := hk3 _ _ (fun hb => hDf (W.sub _ hb)) hDC hD
      refine wpAny_mono (he i hlt c' ⟨o.here, o.dp, o.un⟩ rfl rfl rfl rfl rfl ⟨rfl, hkind, rfl, eo.glob, eo.bui⟩ g3 tk3 (fun y s₄ => ∃ h4 tk4, s₄ = St c.s h4 tk4 ∧ g3.StaysIn h4 ∧ RE i g3 h4 y) K' fun y h4 tk4 st4 r4 => ⟨h4, tk4, rfl, st4, r4⟩) (fun y s₄ q => ?_) fun _ _ e => e.elim
      obtain ⟨h4, tk4, rfl, st4, r4⟩ := q
      refine append_at (hsz := by show ys.toArray.size ≤ sizeLine; rw [List.size_toArray, hyl, sizeLine_eq]; (first | lia | omega)) (st4 _ _ hD3) fun h5 hs5 hD5 => ?_
      have live3 : ∀ b, b ∈ wr ∨ b = H2.objs.size ∨ b = h2.objs.size → ∃ ob, g3.get? b = some ob := by
        rintro b (hb | rfl | rfl)
        · exact W.live _ _ hS3 b hb
        · obtain ⟨ob, _, _, e, _⟩ := hn3; exact ⟨ob, e⟩
        · exact ⟨_, hD3⟩
      refine ⟨n + 1 - (i + 1), by (first | lia | omega), mk5 h5 tk4 (i + 1) (ys ++ [y]) _ ⟨rfl, hlt, rfl, by rw [List.length_append, List.length_singleton, hyl], W.frame _ _ _ hS3 fun b hb ob e => hs5.extBut b ob (fun q => hDf (q ▸ hb)) (st4 b ob e), (hn3.keeps st4).sameBut hs5 (Ne.symm hDC),
        hD5.trans (congrArg some (LCg.lst_snoc ys y)), fun b ob hb e => hs5.extBut b ob (below b (Heap.lt_size e)).2 (st4 b ob (kp3 b ob hb e)), fun j z ez => ?_⟩⟩
      by_cases hj : j < ys.length
      · rw [List.getElem?_append_left hj] at ez
        obtain ⟨hb, q1, q2, q3⟩ := hE j z ez
        refine ⟨hb, q1, q2, hst _ _ _ _ _ q3 fun b ob eb e => ?_⟩
        have nin : ∀ P : Prop, (b ∈ wr ∨ b = H2.objs.size ∨ b = h2.objs.size) → P := fun P hm => ex1 (q2 b hm) fun _ e' => none_at eb rfl e'
        exact hs5.extBut b ob (fun q => nin _ (.inr (.inr q))) (st4 b ob (hk3 b ob (fun q => nin _ (.inl q)) (fun q => nin _ (.inr (.inl q))) e))
      · have hje : j = ys.length := by
          have := (List.getElem?_eq_some_iff.mp ez).1
          rw [List.length_append, List.length_singleton] at this; (first | lia | omega)
        subst hje
        rw [List.getElem?_append_right (Nat.le_refl _), Nat.sub_self] at ez
        cases Option.some.inj ez
        rw [hyl]
        exact ⟨g3, kp3, live3, hst _ _ _ _ _ r4 fun b ob eb e => hs5.extBut b ob (fun q => ex1 (live3 b (.inr (.inr q))) fun _ e' => none_at eb rfl e') e⟩
    · obtain rfl : i = n := Nat.le_antisymm hi (Nat.not_lt.mp hlt)
      refine W.done _ _ _ hS fun g3 tk3 hk3 => ?_
      have hnw : ∀ b, b = H2.objs.size ∨ b = h2.objs.size → b ∉ wr := by
        rintro b (rfl | rfl) hb
        · exact hCf (W.sub _ hb)
        · exact hDf (W.sub _ hb)
      refine ⟨m', hnC.at' fun ob e => hk3 _ _ (hnw _ (.inl rfl)) e, fun g4 hs4 => ?_⟩
      have kp : ∀ b ob, h.get? b = some ob → g4.get? b = some ob := fun b ob e => by
        have hb : b ∉ wr := fun hb => none_at (W.new b hb) rfl e
        exact hs4.extBut b ob (below b (Heap.lt_size (st b ob e))).1 (hk3 b ob hb (hk b ob hb (st b ob e)))
      refine hQ (.ref h2.objs.size) g4 tk3 kp ⟨_, ys, rfl, fresh_after st, hs4.extBut _ _ hDC (hk3 _ _ (hnw _ (.inr rfl)) hD), hyl, fun j y ey => ?_⟩
      · obtain ⟨hb, q1, q2, q3⟩ := hE j y ey
        refine ⟨hb, fun b ob e => q1 b ob (fun hb => none_at (W.new b hb) rfl e) (st b ob e), q2 _ (.inr (.inr rfl)), hst _ _ _ _ _ q3 fun b ob eb e => ?_⟩
        have nin : ∀ P : Prop, (b ∈ wr ∨ b = H2.objs.size ∨ b = h2.objs.size) → P := fun P hm => ex1 (q2 b hm) fun _ e' => none_at eb rfl e'
        exact hs4.extBut b ob (fun q => nin _ (.inr (.inl q))) (hk3 b ob (fun q => nin _ (.inl q)) e)
  exact codeAny_compStart_list (loop _ rfl) (W.self 0 _ _ _ hst₁ (loop _ rfl))
end

theorem bindL_out {κ : Str → Option NameKind} {x : Str} : ∀ {l : List (Str × Value)} {m : Str → Option Value}, x ∉ l.map (·.1) → bindL κ l m x = m x
  | [], _, _ => rfl
  | (n, u) :: r, m, h => by
    have h2 : x ≠ n := fun e => h (e ▸ .head _)
    unfold bindL
    rw [bindL_out fun q => h (.tail _ q)]
    split
    · exact if_neg h2
    · rfl
theorem bindL_look {κ : Str → Option NameKind} {x : Str} {v : Value} (hκ : κ x = some .local) : ∀ {l : List (Str × Value)} {m : Str → Option Value}, (l.map (·.1)).Nodup → (x, v) ∈ l → bindL κ l m x = some v
  | (n, u) :: r, m, hn, hm => by
    have hn := List.nodup_cons.mp hn
    unfold bindL
    rcases List.mem_cons.mp hm with e | hm
    · cases e
      rw [bindL_out hn.1, if_pos hκ]; exact if_pos rfl
    · exact bindL_look hκ hn.2 hm
theorem bindC_out {κ : Str → Option NameKind} {x : Str} : ∀ {l : List (Str × Value)} {m : Str → Option Value}, x ∉ l.map (·.1) → bindC κ l m x = m x
  | [], _, _ => rfl
  | (n, u) :: r, m, h => by
    have h2 : x ≠ n := fun e => h (e ▸ .head _)
    unfold bindC
    rw [bindC_out fun q => h (.tail _ q)]
    split
    · rfl
    · exact if_neg h2
theorem bindC_look {κ : Str → Option NameKind} {x : Str} {v : Value} (hκ : ¬ κ x = some .local) : ∀ {l : List (Str × Value)} {m : Str → Option Value}, (l.map (·.1)).Nodup → (x, v) ∈ l → bindC κ l m x = some v
  | (n, u) :: r, m, hn, hm => by
    have hn := List.nodup_cons.mp hn
    unfold bindC
    rcases List.mem_cons.mp hm with e | hm
    · cases e
      rw [bindC_out hn.1, if_neg hκ]; exact if_pos rfl
    · exact bindC_look hκ hn.2 hm
theorem fnc_introC {w : World} {mean : ExcName → Option Value} {mg mb : Str → Option Value} {D : Nat} {x : Str} {svs : List SV} {R : Heap → Heap → Value → Prop} (y : Str) (xs : List Str)
    {params : Arguments} {body : List Stmt} {scope : Scope} {ps : Pos} (hf : (recsOf hd.view_39).find? (fun e => e.name == x) = some ⟨x, params, body, scope, ps⟩)
    (hbind : ∀ pm code doc vals, vals.length = xs.length → bindArgs (docDef x params body scope pm code doc) ⟨vals, []⟩ = pure (xs.zip vals))
    (hloc : ∀ z ∈ xs, scope.names.lookup z = if z == y then some .cell else some .local) (hnd : xs.Nodup) (hlen : xs.length = svs.length) (hcell : ∀ L, cellsFrom L scope.names [] = [(y, L)]) (hco : scope.isCoroutine = false) (hgen : scope.isGenerator = false) (hk : scope.kind = .function)
    (h : ∀ (c : Cx) f cdv a, c.Ok D → c.cl = [(y, a)] → EO c (envOfC x scope c.L f cdv) → B c (envOfC x scope c.L f cdv) ⟨true, xs.zip svs, none⟩ body none (R c.h₀)) : FncR w mean mg mb (D + 1) x svs R := by
  intro f dp un gd fr s vals Q hmg H hdp hun ds hQ
  obtain ⟨f', o, pm, cdv, doc, h1, h2, h3, h4⟩ := H.T.fn _ (List.mem_of_find?_eq_some hf)
  cases Value.ref.inj (Option.some.inj (h1.symm.trans hmg))
  have hl := denAll_length ds
  have hlv : (xs.zip vals).map (·.1) = xs := zip_names (by first | (with_reducible assumption) | (with_reducible exact Nat.le_trans (by assumption) (by decide)) | (with_reducible exact b0 (by assumption)) | (with_reducible exact b1 (by assumption)) | (with_reducible exact b2 (by assumption)) | (with_reducible exact Int.le_of_lt (by assumption)) | (with_reducible exact Nat.le_of_lt (by assumption)) | (with_reducible exact Int.natCast_nonneg _) | (with_reducible exact Int.le_of_lt (Int.pow_pos (by decide))) | (with_reducible exact Int.pow_pos (by decide)) | (with_reducible exact Nat.lt_of_lt_of_le (by decide) (by assumption)) | (with_reducible exact Int.ne_of_gt (by assumption)) | lia | omega)
  have hkd : ∀ z ∈ xs.zip vals, scope.names.lookup z.1 = if z.1 == y then some .cell else some .local := fun z hz => hloc z.1 (by rw [← hlv]; exact List.mem_map_of_mem (f := (·.1)) hz)
  refine wpAny_call (call_cells_ret (body := body) (binds := xs.zip vals) (by show dp < 1000; (first | lia | omega)) h2 h3 H.T.nolimit h4 (hbind _ _ _ vals (by first | (with_reducible assumption) | (with_reducible exact Nat.le_trans (by assumption) (by decide)) | (with_reducible exact b0 (by assumption)) | (with_reducible exact b1 (by assumption)) | (with_reducible exact b2 (by assumption)) | (with_reducible exact Int.le_of_lt (by assumption)) | (with_reducible exact Nat.le_of_lt (by assumption)) | (with_reducible exact Int.natCast_nonneg _) | (with_reducible exact Int.le_of_lt (Int.pow_pos (by decide))) | (with_reducible exact Int.pow_pos (by decide)) | (with_reducible exact Nat.lt_of_lt_of_le (by decide) (by assumption)) | (with_reducible exact Int.ne_of_gt (by assumption)) | lia | omega)) (fun z hz => ?_) (fun h₁ tk F X => ?_) hco hgen hk)
  · rw [hkd z hz]
    cases hy : z.1 == y with
    | false => exact .inl rfl
    | true => exact .inr ⟨rfl, by rw [hcell, List.lookup_cons, hy]; rfl⟩
  let env := envOfC x scope s.heap.objs.size f cdv
  let c : Cx := ⟨w, mean, mg, mb, s.heap, s.heap.objs.size, dp + 1, un + 3, gd, env :: fr, s, [(y, s.heap.objs.size + 1)]⟩
  rw [hcell] at X
  have hcy : ∀ {z : Str}, z == y → c.cl.lookup z = some (s.heap.objs.size + 1) := fun e => by show List.lookup _ [_] = _; rw [List.lookup_cons, e]
  have K : Kn c ⟨true, xs.zip svs, none⟩ h₁ := by
    refine ⟨_, F, fun z u e => ?_, (fun _ _ _ e => nomatch e), fun p hp => ?_⟩
    · obtain ⟨v, hv, d⟩ := zip_look hnd hlen ds z u e
      have hm := mem_of_look hv
      refine ⟨v, ?_, d⟩
      have hz := hkd _ hm
      dsimp only at hz
      unfold Held
      cases hy : z == y with
      | false =>
        rw [show c.cl.lookup z = none by show List.lookup _ [_] = _; rw [List.lookup_cons, hy]; rfl]
        rw [hy] at hz
        exact bindL_look hz (by rw [hlv]; exact hnd) hm
      | true =>
        rw [hcy hy]
        rw [hy] at hz
        have := X.cell z _ (hcy hy)
        rw [bindC_look (by show ¬ scope.names.lookup z = _; rw [hz]; decide) (by rw [hlv]; exact hnd) hm] at this
        exact this
    · rw [List.mem_singleton.mp hp]
      exact ⟨Heap.get?_none_of_le (Nat.le_succ _), _, X.cell y _ (hcy (beq_self_eq_true y))⟩
  refine wpAny_mono (h c f cdv _ ⟨H, by show dp + 1 + D ≤ 900; (first | lia | omega), by show un + 3 + 20 * D ≤ 9000; (first | lia | omega)⟩ rfl ⟨rfl, hk, hcell _, rfl, rfl⟩ h₁ _ (fun fl s' => Q (match fl with | .ret v => v | _ => .none) s') K (fun _ e => nomatch e) fun v h' tk' st d => ?_) (fun _ _ q => q) (fun _ _ e => e.elim)
  refine hQ v h' tk' (fun b o e => st b o ?_ (fun _ _ _ e => nomatch e) (fun p hp => ?_) (F.keep b o e)) d
  · exact Nat.ne_of_lt (Heap.lt_size e)
  · rw [List.mem_singleton.mp hp]
    exact Nat.ne_of_lt (Nat.lt_succ_of_lt (Heap.lt_size e))
section
variable {c : Cx} {env : Env} {k : Know} {N : Option Know} {res : Heap → Value → Prop} {D : Nat}
theorem B_asgC {x : Str} {p pos : Pos} {e : Expr} {rest : List Stmt} {sv : SV} {a : Addr} {st : Bool} {l : List (Str × SV)} (eo : EO c env) (hcl : c.cl = [(x, a)]) (hj : J c env ⟨st, l, none⟩ e sv) (hsc : sv.scalar = true)
    (hB : B c env ⟨st, (x, sv) :: l, none⟩ rest N res) (hx : env.kindOf x = some .cell := by rfl) (hs : swapsWith e (some (.Name x p)) pos.line env = pure false := by rfl) : B c env ⟨st, l, none⟩ (.Assign [.Name x p] e pos :: rest) N res := by
  intro h tk Q K hn hr
  refine wpAny_execs_cons (wpAny_Assign_Name (hj h tk _ K fun v h' tk' st' d => ?_) hs)
  obtain ⟨m, K'⟩ := K.keeps st'
  have hmem : (x, a) ∈ c.cl := by rw [hcl]; exact .head _
  have hlx : c.cl.lookup x = some a := by rw [hcl, List.lookup_cons, beq_self_eq_true]
  obtain ⟨hf, v₀, hv₀⟩ := K'.cl _ hmem
  refine wpAny_storeName_cell eo.kind hx (by rw [eo.cells]; exact hlx) hv₀ fun h2 hc2 hs2 => ?_
  obtain ⟨o₀, e3, e4⟩ := hv₀
  have hLa : c.L ≠ a := (ns_ne K'.F.ns e3 (nd_cell e4)).symm
  have hsq : Seqs h' h2 := fun b o xs n e1 e2 => by
    have : b ≠ a := fun q => by
      rw [q, e3] at e1; cases e1
      rw [e2] at e4; cases e4
    exact (hs2.2 b this).trans e1
  have K2 : Kn c ⟨st, (x, sv) :: l, none⟩ h2 := by
    refine ⟨m, ⟨K'.F.ns.sameBut hs2 hLa, fun b o e => (hs2.2 b (fun q => none_at hf q e)).trans (K'.F.keep b o e), K'.F.above⟩, fun y u e => ?_, (fun _ _ _ e => nomatch e), fun p hp => ?_⟩
    · dsimp only at e
      rw [List.lookup_cons] at e
      cases hy : y == x with
      | true =>
        rw [hy] at e; cases e
        have hy := beq_iff_eq.mp hy; subst hy
        refine ⟨v, by unfold Held; rw [hlx]; exact hc2, ?_⟩
        split <;> exact d.scalar hsc
      | false =>
        rw [hy] at e
        obtain ⟨u', hu, d'⟩ := K'.l y u e
        have hno : c.cl.lookup y = none := by rw [hcl, List.lookup_cons, hy]; rfl
        refine ⟨u', ?_, ?_⟩
        · unfold Held at hu ⊢; rw [hno] at hu ⊢; exact hu
        · dsimp only at d' ⊢
          cases st with
          | true => exact d'
          | false => exact d'.mono hsq
    · rw [hcl] at hp
      rw [List.mem_singleton.mp hp]
      exact ⟨hf, _, hc2⟩
  have st2 : StB c ⟨st, l, none⟩ h h2 := (StB.of st').trans (k' := ⟨st, l, none⟩) (fun b o _ _ h3 e => (hs2.2 b (h3 _ hmem)).trans e) (.inl rfl)
  exact hB h2 _ Q K2 (fun k' e h3 tk3 st3 K3 => hn k' e h3 tk3 (st2.trans st3 (.inl rfl)) K3) fun v h3 tk3 st3 d3 => hr v h3 tk3 (st2.trans st3 (.inl rfl)) d3
end

section
variable {c : Cx} {env : Env} {k : Know} {N : Option Know} {D : Nat}
theorem Drw.one {h h' : Heap} {I : Addr} {x : Str} {px : Pos} {n : Nat} {f : Nat → Int} {fp wr : List Addr} {P : Nat → Value → Prop} {S : Nat → Heap → Prop} (W : Walks prg c.w c.A I fp wr n P S) (hP : ∀ i v, i < n → P i v → ∃ t, v = .int (f i) t)
    (low : ∀ b ∈ fp, b < h'.objs.size) (new : ∀ b ∈ wr, h.get? b = none) (live : ∀ i g, S i g → ∀ b ∈ wr, ∃ o, g.get? b = some o) (st : S 0 h') : Drw c h h' I (.Name x px) [x] n (fun i => [(x, f i)]) fp wr S where
  low := low
  sub := W.sub
  new := new
  frame := W.frame
  live := live
  st := st
  item := fun i s e m Q R E hi hS hn hL hk hl hQ => by
    refine W.item i s _ _ hi hS fun v g tk hp hS' hk' => ?_
    obtain ⟨t, rfl⟩ := hP i v hi hp
    refine wpAny_pure (wpAny_assign_Name (wpAny_storeName_local (hl x (.head _)) (hn.at' fun o e' => hk' _ o (fun hb => hL (W.sub _ hb)) e') (fun g' hn' hs' => ?_) (by rw [hk]; rfl)))
    refine hQ g' _ _ (W.frame _ _ _ hS' fun b hb o e' => hs'.extBut b o (fun q => hL (q ▸ hb)) e') hn' (fun y v ev => ?_) fun b o hb hL' e' => hs'.extBut b o hL' (hk' b o hb e')
    rw [List.lookup_cons] at ev
    cases hy : y == x with
    | true => rw [hy] at ev; cases ev; exact ⟨t, if_pos (beq_iff_eq.mp hy)⟩
    | false => rw [hy] at ev; cases ev
  done := W.done
  self := W.self
theorem ints_at {vs : List Value} {ns : List Int} (hi : IntsAre vs ns) {i : Nat} {v : Value} (hlt : i < ns.length) (hP : vs.toArray[i]? = some v) : ∃ t, v = .int (ns.getD i 0) t := by
  obtain ⟨t, hx⟩ := hi.get i ns[i] (by simp [hlt])
  have hP' : vs[i]? = some v := by simpa using hP
  rw [hx] at hP'
  exact ⟨t, by rw [← Option.some.inj hP', List.getD_eq_getElem?_getD, List.getElem?_eq_getElem hlt]; rfl⟩
theorem Src_list {e : Expr} {x : Str} {px : Pos} {ns : List Int} (hj : J c env k e (.l ns)) : Src c env k e (.Name x px) [x] ns.length (fun i => [(x, ns.getD i 0)]) := by
  intro h tk Q K hQ
  refine hj h tk _ K fun v h1 tk1 st ⟨a, e1, us, m, ho, hi⟩ => ?_
  subst e1
  have hls : (St c.s h1 tk1).heap.IsList a us.toArray := ⟨_, ho, rfl, m, rfl⟩
  refine wpAny_pyIter_list hls ?_
  have W := Walks.list (prog := prg) (w := c.w) (A := c.A) rfl h1.objs.size a (Nat.ne_of_lt (Heap.lt_size ho)) us.toArray
  rw [show us.toArray.size = ns.length by simp [hi.length]] at W
  refine hQ h1.objs.size _ tk1 _ _ _ (strans st (stays_push _ _)) (Drw.one W (fun i v hlt hP => ints_at hi hlt hP) (fun b hb => ?_) (fun b hb => ?_) (fun i g hS b hb => ?_) ⟨⟨_, Heap.get?_push_size _ rfl, rfl, rfl⟩, hls.at fun o e => Heap.get?_push_of_some _ e⟩)
  · rw [Heap.size_push]
    rcases List.mem_cons.mp hb with rfl | hb
    · exact Nat.lt_succ_self _
    · rw [List.mem_singleton.mp hb]; exact Nat.lt_succ_of_lt (Heap.lt_size ho)
  · rw [List.mem_singleton.mp hb]; exact fresh_after st
  · rw [List.mem_singleton.mp hb]; obtain ⟨⟨o, e, _⟩, _⟩ := hS; exact ⟨o, e⟩
theorem Src_tup {es : List Expr} {kk : Nat} {pos px : Pos} {x : Str} {ns : List Int} (hj : Js c env k es (ns.map .i)) (hlen : ns.length ≤ 1000) : Src c env k (.Tuple es kk pos) (.Name x px) [x] ns.length (fun i => [(x, ns.getD i 0)]) := by
  intro h tk Q K hQ
  refine wpAny_Tuple (hj pos h tk _ K fun vs h1 tk1 st ds => ?_)
  have hi := ints_of_den ds
  refine ⟨by rw [hi.length, sizeLine_eq]; (first | lia | omega), ?_⟩
  have ht : (h1.push { cls := .type "tuple", data := .seq vs.toArray }).IsTuple h1.objs.size vs.toArray := ⟨_, Heap.get?_push_size _ rfl, rfl, _, rfl⟩
  refine wpAny_pyIter_tuple (items := vs.toArray) ht ?_
  have hsz : (h1.push { cls := .type "tuple", data := .seq vs.toArray }).objs.size = h1.objs.size + 1 := Heap.size_push ..
  have W := Walks.tuple (prog := prg) (w := c.w) (A := c.A) rfl (h1.push { cls := .type "tuple", data := .seq vs.toArray }).objs.size h1.objs.size (by rw [hsz]; exact Nat.ne_of_lt (Nat.lt_succ_self _)) vs.toArray
  rw [show vs.toArray.size = ns.length by simp [hi.length]] at W
  have st1 := strans st (stays_push h1 { cls := .type "tuple", data := .seq vs.toArray })
  refine hQ _ _ tk1 _ _ _ (strans st1 (stays_push _ _)) (Drw.one W (fun i v hlt hP => ints_at hi hlt hP) (fun b hb => ?_) (fun b hb => ?_) (fun i g hS b hb => ?_) ⟨⟨_, Heap.get?_push_size _ rfl, rfl, rfl⟩, Heap.IsTuple.at ht fun o e => Heap.get?_push_of_some _ e⟩)
  · rw [Heap.size_push]
    rcases List.mem_cons.mp hb with rfl | hb
    · exact Nat.lt_succ_self _
    · rw [List.mem_singleton.mp hb]
      exact Nat.lt_succ_of_lt (Nat.lt_of_lt_of_eq (Nat.lt_succ_self _) hsz.symm)
  · rw [List.mem_singleton.mp hb]; exact fresh_after st1
  · rw [List.mem_singleton.mp hb]; obtain ⟨⟨o, e, _⟩, _⟩ := hS; exact ⟨o, e⟩
theorem ints_of_get : ∀ {vs : List Value} {ns : List Int}, vs.length = ns.length → (∀ (i : Nat) (n : Int), ns[i]? = some n → ∃ t, vs[i]? = some (Value.int n t)) → IntsAre vs ns
  | [], [], _, _ => .nil
  | v :: vs, n :: ns, hl, h => by
    obtain ⟨t, e⟩ := h 0 n rfl
    cases e
    exact .cons n t (ints_of_get (Nat.succ.inj hl) fun i m e => h (i + 1) m e)
theorem JN_of_comp {e : Expr} {ns : List Int} (h : JR c env k e (fun h h' v => ∃ (a : Addr) (ys : List Value), v = .ref a ∧ h.get? a = none ∧ h'.get? a = some (listOf ys.toArray ys.length) ∧ ys.length = ns.length ∧ ∀ (i : Nat) (y : Value), ys[i]? = some y → ∃ hb : Heap, (∀ b ob, h.get? b = some ob → hb.get? b = some ob) ∧ (∃ ob, hb.get? a = some ob) ∧ ∃ t, y = .int (ns.getD i 0) t)) :
    JN c env k e ns := fun h0 tk Q K hQ => h h0 tk Q K fun v h' tk' st z => ex2 z fun a ys z => an5 z fun e1 e2 e3 e4 e5 => by
  subst e1
  refine hQ a h' tk' st e2 ⟨ys, _, e3, ints_of_get e4 fun i m em => ?_⟩
  have hi : i < ns.length := (List.getElem?_eq_some_iff.mp em).1
  obtain ⟨_, _, _, t, et⟩ := e5 i ys[i] (by simp [e4, hi])
  refine ⟨t, ?_⟩
  rw [List.getElem?_eq_getElem (by first | (with_reducible assumption) | (with_reducible exact Nat.le_trans (by assumption) (by decide)) | (with_reducible exact b0 (by assumption)) | (with_reducible exact b1 (by assumption)) | (with_reducible exact b2 (by assumption)) | (with_reducible exact Int.le_of_lt (by assumption)) | (with_reducible exact Nat.le_of_lt (by assumption)) | (with_reducible exact Int.natCast_nonneg _) | (with_reducible exact Int.le_of_lt (Int.pow_pos (by decide))) | (with_reducible exact Int.pow_pos (by decide)) | (with_reducible exact Nat.lt_of_lt_of_le (by decide) (by assumption)) | (with_reducible exact Int.ne_of_gt (by assumption)) | lia | omega), et, List.getD_eq_getElem?_getD, em]; rfl
end

section
variable {c : Cx} {env : Env} {k : Know} {N : Option Know} {D : Nat}
theorem fm_nil {p : Addr → Prop} : ∀ b ∈ ([] : List Addr), p b := fun _ h => nomatch h
theorem fm_cons {p : Addr → Prop} {a : Addr} {l : List Addr} (h : p a) (r : ∀ b ∈ l, p b) : ∀ b ∈ a :: l, p b := List.forall_mem_cons.mpr ⟨h, r⟩
theorem Drw.two {h h' : Heap} {I : Addr} {x y : Str} {px py tp : Pos} {kk n : Nat} {f1 f2 : Nat → Int} {fp wr : List Addr} {P : Nat → Array Value → Prop} {S : Nat → Heap → Prop} {M : Nat → Addr → Heap → Prop} (W : WalksT prg c.w c.A I fp wr n P S M) (hP : ∀ i vals, i < n → P i vals → ∃ t t', vals = #[.int (f1 i) t, .int (f2 i) t']) (hxy : (x == y) = false)
    (low : ∀ b ∈ fp, b < h'.objs.size) (new : ∀ b ∈ wr, h.get? b = none) (live : ∀ i g, S i g → ∀ b ∈ wr, ∃ o, g.get? b = some o) (st : S 0 h') : Drw c h h' I (.Tuple [.Name x px, .Name y py] kk tp) [x, y] n (fun i => [(x, f1 i), (y, f2 i)]) fp wr S where
  low := low
  sub := W.sub
  new := new
  frame := W.frame
  live := live
  st := st
  done := W.done
  self := W.self
  item := fun i s e m Q R E hi hS hn hL hk hlc hQ => by
    refine W.item i s _ _ hi hS fun T vals g' tk hp _ hT hM hk1 => ?_
    obtain ⟨t, t', rfl⟩ := hP i vals hi hp
    have hT' := W.apart i T _ hM
    refine W.go _ _ _ i T _ _ _ hM fun g'' hS'' hk2 => ?_
    have hLw := fun hb => hL (W.sub _ hb)
    refine kcp_assign (a := x) (b := y) rfl (Heap.IsTuple.at hT fun o e => hk2 _ o hT' e) (hlc x (.head _)) (hlc y (.tail _ (.head _))) (by rw [hk]; rfl) (hn.at' fun o e => hk2 _ o hLw (hk1 _ o hLw e)) fun g3 tk3 hn3 hk3 => ?_
    refine hQ g3 tk3 _ (W.frame _ _ _ hS'' fun b hb o e' => hk3 b o (fun q => hL (q ▸ hb)) e') hn3 (fun z v ev => ?_) fun b o hb hL' e' => hk3 b o hL' (hk2 b o hb (hk1 b o hb e'))
    rw [List.lookup_cons] at ev
    cases hz : z == x with
    | true =>
      rw [hz] at ev; cases ev
      have hz := beq_iff_eq.mp hz; subst hz
      exact ⟨t, by rw [if_neg (fun q => by rw [q, beq_self_eq_true] at hxy; cases hxy), if_pos rfl]⟩
    | false =>
      rw [hz, List.lookup_cons] at ev
      cases hz' : z == y with
      | true => rw [hz'] at ev; cases ev; exact ⟨t', if_pos (beq_iff_eq.mp hz')⟩
      | false => rw [hz'] at ev; cases ev
theorem Src_zip {e1 e2 : Expr} {x y : Str} {p px py tp pos : Pos} {kk : Nat} {ns ms : List Int} (eo : EO c env) (o : c.Ok D) (hf : Free "zip") (h1 : J c env k e1 (.l ns)) (h2 : J c env k e2 (.l ms)) (hl : ns.length = ms.length) (hxy : (x == y) = false := by decide)
    (hs : starEach [e1, e2] env = (false, eval e1 env) :: starEach [e2] env := by rfl) (hs2 : starEach [e2] env = (false, eval e2 env) :: starEach [] env := by rfl) (hpl : (backTo pos (starEach [e2] env)).any (·.1) = false := by rfl) (hx : env.kindOf "zip" = some .globalImplicit := by rfl) :
    Src c env k (.Call (.Name "zip" p) [e1, e2] [] pos) (.Tuple [.Name x px, .Name y py] kk tp) [x, y] ns.length (fun i => [(x, ns.getD i 0), (y, ms.getD i 0)]) := by
  intro h tk Q K hQ
  refine Call_Name rfl (name_bui eo o K hf (by decide +kernel : bootBuiltins "zip" = some (.type "zip")) (by decide) hx (by decide) ?_)
  refine Pv.callWith_type1 (Js_cons h1 (Js_cons h2 Js_nil hs2) hs pos h tk _ K fun vs h' tk' st ds => ?_) hs hpl
  obtain ⟨v, u, rfl, ⟨l1, rfl, us1, m1, ho1, hi1⟩, l2, rfl, us2, m2, ho2, hi2⟩ := den2 ds
  clear ds
  have hl1 : (St c.s h' tk').heap.IsList l1 us1.toArray := ⟨_, ho1, rfl, m1, rfl⟩
  have hl2 : (St c.s h' tk').heap.IsList l2 us2.toArray := ⟨_, ho2, rfl, m2, rfl⟩
  refine call_zip_2 hl1 hl2 fun g hz hTI hTO g1 g2 gs gk => ?_
  have W := WalksT.zip2 (prog := prg) (w := c.w) (A := c.A) rfl _ _ _ _ _ _ _ (zipApart_new (Heap.lt_size ho1) (Heap.lt_size ho2)) us1.toArray us2.toArray
  rw [show min us1.toArray.size us2.toArray.size = ns.length by simp [hi1.length, hi2.length, hl]] at W
  have gs : g.objs.size = h'.objs.size + 5 := gs
  have old : ∀ j, h.get? (h'.objs.size + j) = none := fun j => none_old st (Heap.get?_none_of_le (Nat.le_add_right _ _))
  have lo : ∀ j, j < 5 → h'.objs.size + j < g.objs.size := fun j hj => gs ▸ Nat.add_lt_add_left hj _
  have up : ∀ {b : Addr} {o : Obj}, h'.get? b = some o → b < g.objs.size := fun e => Nat.lt_trans (Heap.lt_size e) (gs ▸ Nat.lt_add_of_pos_right (by decide))
  have D := Drw.two (h := h) (px := px) (py := py) (tp := tp) (kk := kk) (f1 := fun i => ns.getD i 0) (f2 := fun i => ms.getD i 0) W (fun i vals hlt hP => ?_) hxy (fm_cons (lo 4 (by decide)) (fm_cons (lo 2 (by decide)) (fm_cons (lo 3 (by decide)) (fm_cons (lo 0 (by decide)) (fm_cons (lo 1 (by decide)) (fm_cons (up ho1) (fm_cons (up ho2) fm_nil)))))))
    (fm_cons (old 4) (fm_cons (old 3) (fm_cons (old 0) (fm_cons (old 1) fm_nil)))) (fun i g hS => ?_) ⟨hz, hTI, ⟨_, _, hTO⟩, g1, g2, Heap.IsList.at hl1 fun o e => gk _ o e, Heap.IsList.at hl2 fun o e => gk _ o e⟩
  · exact W.self 0 _ _ _ D.st (hQ _ g tk' _ _ _ (strans st fun b o e => gk b o e) D)
  · obtain ⟨a, b, ha, hb, rfl⟩ := hP
    obtain ⟨t, rfl⟩ := ints_at hi1 hlt ha
    obtain ⟨t', rfl⟩ := ints_at hi2 (hl ▸ hlt) hb
    exact ⟨t, t', rfl⟩
  · exact fm_cons ⟨_, hS.1⟩ (fm_cons (ex2 hS.2.2.1 fun _ _ q => ⟨_, q⟩) (fm_cons (ex1 hS.2.2.2.1 fun o q => ⟨o, q.1⟩) (fm_cons (ex1 hS.2.2.2.2.1 fun o q => ⟨o, q.1⟩) fm_nil)))
end

noncomputable def so : Option Int → SV
  | none => .n
  | some i => .i i
section
variable {c : Cx} {env : Env} {k : Know} {N : Option Know} {D : Nat}
theorem J_sum {p pos : Pos} {e : Expr} {ns : List Int} (eo : EO c env) (o : c.Ok D) (hf : Free "sum") (h : J c env k e (.l ns)) (hs : starEach [e] env = (false, eval e env) :: starEach [] env := by rfl) (hx : env.kindOf "sum" = some .globalImplicit := by rfl) :
    J c env k (.Call (.Name "sum" p) [e] [] pos) (.i ns.sum) := by
  refine J_bui eo o hf boot_sum (Js_cons h Js_nil hs) (fun h tk vs Q K ds hQ => ?_) (by decide) hx (by decide) hs rfl
  obtain ⟨v, rfl⟩ := List.length_eq_one_iff.mp (denAll_length ds)
  obtain ⟨⟨a, rfl, us, n, ho, hi⟩, _⟩ := ds
  have hl : (St c.s h tk).heap.IsList a us.toArray := ⟨_, ho, rfl, n, rfl⟩
  obtain ⟨xs, ex⟩ := hi.allInts.items
  rw [ex] at hl
  refine sum_intListG rfl hl fun h' tk' t' hk => ?_
  have e : preSum (numAt xs) xs.size = ns.sum := by
    rw [preSum_eq, List.take_of_length_le (by simp), ← nums_intItems, ← ex]
    show (numsOf us).sum = _
    rw [hi.numsOf]
  rw [e]
  exact hQ _ h' tk' hk ⟨t', rfl⟩
theorem J_abs {p pos : Pos} {e : Expr} {a : Int} (eo : EO c env) (o : c.Ok D) (hf : Free "abs") (h : J c env k e (.i a)) (hs : starEach [e] env = (false, eval e env) :: starEach [] env := by rfl) (hx : env.kindOf "abs" = some .globalImplicit := by rfl) :
    J c env k (.Call (.Name "abs" p) [e] [] pos) (.i a.natAbs) := by
  refine J_bui eo o hf boot_abs (Js_cons h Js_nil hs) (fun h tk vs Q K ds hQ => ?_) (by decide) hx (by decide) hs rfl
  obtain ⟨v, rfl⟩ := List.length_eq_one_iff.mp (denAll_length ds)
  obtain ⟨⟨t, rfl⟩, _⟩ := ds
  refine call_abs_int fun u tk' => hQ _ h tk' (srefl h) ⟨u, ?_⟩
  rw [show (if a < 0 then -a else a) = a.natAbs by split <;> (first | lia | omega)]
theorem J_intb {p pos : Pos} {e : Expr} {b : Bool} (eo : EO c env) (o : c.Ok D) (hf : Free "int") (h : J c env k e (.b b)) (hs : starEach [e] env = (false, eval e env) :: starEach [] env := by rfl) (hx : env.kindOf "int" = some .globalImplicit := by rfl) :
    J c env k (.Call (.Name "int" p) [e] [] pos) (.i (if b then 1 else 0)) := by
  intro g tk Q K hQ
  refine Call_Name rfl (name_bui eo o K hf Pv.boot_int (by decide) hx (by decide) ?_)
  refine Pv.callWith_type1 (Js_cons h Js_nil hs pos g tk _ K fun vs h' tk' st ds => ?_) hs rfl
  obtain ⟨v, rfl⟩ := List.length_eq_one_iff.mp (denAll_length ds)
  obtain ⟨rfl, _⟩ := ds
  exact call_int_bool (hQ _ h' (tk' + 1) st ⟨_, rfl⟩)
theorem op_neb {a b : Bool} : Op c (compareOp .NotEq) (.b a) (.b b) (.b (a != b)) := by
  rintro h tk Q v u rfl rfl hQ; exact ne_bool (hQ _ h tk (srefl h) rfl)
theorem op_mul {a b : Int} (hm : IntMulOk a b) : Op c (binaryOp .Mult) (.i a) (.i b) (.i (a * b)) := by
  rintro h tk Q v u ⟨t, rfl⟩ ⟨t', rfl⟩ hQ; exact PyProof.Rows.mul_int (hQ _ h (tk + 1) (srefl h) ⟨_, rfl⟩) hm
theorem op_neo {a b : Option Int} : Op c (compareOp .NotEq) (so a) (so b) (.b (a != b)) := by
  intro h tk Q v u d d' hQ
  cases a with
  | none =>
    cases b with
    | none => cases d; cases d'; exact PySem.EqNone.ne_none_none (hQ _ h tk (srefl h) rfl)
    | some y => cases d; obtain ⟨t, rfl⟩ := d'; exact PySem.EqNone.ne_none_int (hQ _ h tk (srefl h) rfl)
  | some x =>
    cases b with
    | none => cases d'; obtain ⟨t, rfl⟩ := d; exact PySem.EqNone.ne_int_none (hQ _ h tk (srefl h) rfl)
    | some y =>
      obtain ⟨t, rfl⟩ := d; obtain ⟨t', rfl⟩ := d'
      refine ne_int (hQ _ h tk (srefl h) ?_)
      show Value.bool _ = _
      rw [show (some x != some y) = (x != y) by simp [bne]]
theorem op_eqo {a b : Option Int} : Op c (compareOp .Eq) (so a) (so b) (.b (a == b)) := by
  intro h tk Q v u d d' hQ
  cases a with
  | none =>
    cases b with
    | none => cases d; cases d'; exact PySem.EqNone.eq_none_none (hQ _ h tk (srefl h) rfl)
    | some y => cases d; obtain ⟨t, rfl⟩ := d'; exact PySem.EqNone.eq_none_int (hQ _ h tk (srefl h) rfl)
  | some x =>
    cases b with
    | none => cases d'; obtain ⟨t, rfl⟩ := d; exact PySem.EqNone.eq_int_none (hQ _ h tk (srefl h) rfl)
    | some y =>
      obtain ⟨t, rfl⟩ := d; obtain ⟨t', rfl⟩ := d'
      exact eq_int (hQ _ h tk (srefl h) rfl)
theorem J_bits {e : Expr} {p pos : Pos} {a : Int} {pl : Sem Bool} (h : J c env k e (.i a)) (he : eval (.Call (.Attribute e "bit_length" p) [] [] pos) env = (do
      let ov ← eval e env
      standAt p.atName
      let (f, first) ← holding [ov] (getMethod ov "bit_length" pl)
      callWith pos f first (backTo pos (starEach [] env)) []) := by rfl) : J c env k (.Call (.Attribute e "bit_length" p) [] [] pos) (.i (Builtin.Int.intBits a)) := by
  intro g tk Q K hQ
  refine MethodCall_ (h g tk _ K fun v h' tk' st d => ?_) he
  obtain ⟨t, rfl⟩ := d
  refine getMethod_int_bit_length (callWith_method0 (call_int_bit_length ?_))
  exact hQ _ h' (tk' + 1) st ⟨_, rfl⟩
noncomputable def rp : Option Int → Str
  | none => "None"
  | some i => toString i
theorem J_repr {p pos : Pos} {e : Expr} {a : Option Int} (eo : EO c env) (o : c.Ok D) (hf : Free "repr") (h : J c env k e (so a)) (ha : ∀ i, a = some i → i.natAbs.log2 < 1920) (hs : starEach [e] env = (false, eval e env) :: starEach [] env := by rfl) (hx : env.kindOf "repr" = some .globalImplicit := by rfl) :
    J c env k (.Call (.Name "repr" p) [e] [] pos) (.s (rp a)) := by
  refine J_bui eo o hf (by decide +kernel : bootBuiltins "repr" = some (.builtin "repr")) (Js_cons h Js_nil hs) (fun g tk vs Q K ds hQ => ?_) (by decide) hx (by decide) hs rfl
  obtain ⟨v, rfl⟩ := List.length_eq_one_iff.mp (denAll_length ds)
  obtain ⟨d, _⟩ := ds
  cases a with
  | none => cases d; exact PySem.P.repr_of_none (hQ _ g (tk + 1) (srefl g) ⟨_, rfl⟩)
  | some i => obtain ⟨t, rfl⟩ := d; exact PySem.P.repr_of_int (ha i rfl) (hQ _ g (tk + 1) (srefl g) ⟨_, rfl⟩)
theorem op_eqs {a : Str} : Op c (compareOp .Eq) (.s a) (.s a) (.b true) := by
  rintro h tk Q v u ⟨t, rfl⟩ ⟨t', rfl⟩ hQ
  refine eq_str ?_
  rw [beq_self_eq_true]
  exact hQ _ h tk (srefl h) rfl
end

noncomputable def NewL (ns : List Int) (h₀ h : Heap) (v : Value) : Prop := ∃ a, v = .ref a ∧ h₀.get? a = none ∧ LAt h a ns
noncomputable def NewG (b : Bool) (ns : List Int) (h₀ h : Heap) (v : Value) : Prop := ∃ a la m, v = .ref a ∧ h₀.get? a = none ∧ h₀.get? la = none ∧ h.get? a = some (tupOf [.bool b, .ref la] m) ∧ LAt h la ns
theorem old_none {hb hb' : Heap} {a : Addr} (st : hb.StaysIn hb') (e : hb'.get? a = none) : hb.get? a = none := none_old st e
theorem NewL.old {ns : List Int} {hb hb' h : Heap} {v : Value} (st : hb.StaysIn hb') : NewL ns hb' h v → NewL ns hb h v := fun q => ex1 q fun a q => ⟨a, q.1, old_none st q.2.1, q.2.2⟩
theorem NewG.old {b : Bool} {ns : List Int} {hb hb' h : Heap} {v : Value} (st : hb.StaysIn hb') : NewG b ns hb' h v → NewG b ns hb h v := fun q => ex3 q fun a la m q => ⟨a, la, m, q.1, old_none st q.2.1, old_none st q.2.2.1, q.2.2.2⟩
theorem NewG.den {b : Bool} {ns : List Int} {hb h : Heap} {v : Value} : NewG b ns hb h v → Den h v (.g b ns) := fun q => ex3 q fun a la m q => ⟨a, q.1, la, m, q.2.2.2.1, q.2.2.2.2⟩
section
variable {c : Cx} {env : Env} {k : Know} {N : Option Know} {D : Nat}
theorem JR_found {x : Str} {pos : Pos} {a : Addr} {ns : List Int} (eo : EO c env) (e : k.fd = some (x, a, ns)) (hx : env.kindOf x = some .local := by rfl) (hd : (x == ("__debug__" : Str)) = false := by decide) : JR c env k (.Name x pos) (fun _ h v => NewL ns c.h₀ h v) := by
  intro h tk Q ⟨m, K⟩ hQ
  obtain ⟨h1, h2, _, _, h5⟩ := K.fd _ _ _ e
  exact wpAny_Name (wpAny_loadName_local eo.kind hx (by rw [eo.loc]; exact K.F.ns) h1 (hQ _ h tk (srefl h) ⟨a, rfl, h2, h5⟩)) hd
theorem JR_g {e1 e2 : Expr} {n : Nat} {pos : Pos} {b : Bool} {ns : List Int} (h1 : J c env k e1 (.b b)) (h2 : JR c env k e2 (NewL ns)) (hs1 : starEach [e1, e2] env = (false, eval e1 env) :: starEach [e2] env := by rfl) (hs2 : starEach [e2] env = (false, eval e2 env) :: starEach [] env := by rfl) :
    JR c env k (.Tuple [e1, e2] n pos) (NewG b ns) := by
  intro h tk Q K hQ
  refine Tuple_ ?_
  rw [hs1]
  refine spliced_cons (h1 h tk _ K fun v h' tk' st d => ?_)
  rw [hs2]
  refine spliced_cons (h2 h' tk' _ (K.keeps st) fun u h'' tk'' st' ⟨la, e2, f2, l2⟩ => spliced_nil ?_)
  cases d; subst e2
  have st2 := strans st st'
  refine wpAny_newTuple (hQ _ _ tk'' (strans st2 (stays_push _ _)) ⟨h''.objs.size, la, 0, rfl, fresh_after st2, old_none st f2, Heap.get?_push_size _ rfl, l2.mono (.of_stays (stays_push _ _))⟩) (by show 2 ≤ sizeLine; decide)
theorem gs_of_den {h : Heap} : ∀ {vs : List Value} {xs : List (Bool × List Int)}, DenAll h vs (xs.map fun x => .g x.1 x.2) → GsAre h vs xs
  | [], [], _ => trivial
  | _ :: _, _ :: _, ⟨d, r⟩ => ⟨d, gs_of_den r⟩
theorem J_gl {es : List Expr} {pos : Pos} {xs : List (Bool × List Int)} (hj : Js c env k es (xs.map fun x => .g x.1 x.2)) (hsz : xs.length ≤ 1000) : J c env k (.List es pos) (.gl xs) := by
  intro h tk Q K hQ
  refine List_ (hj pos h tk _ K fun vs h' tk' st ds => ?_)
  have hv := gs_of_den ds
  have hl := denAll_length ds
  rw [List.length_map] at hl
  refine wpAny_newObj_type (hQ _ _ tk' (strans st (stays_push _ _)) ⟨h'.objs.size, vs, 0, rfl, Heap.get?_push_size _ rfl, hv.mono (.of_stays (stays_push _ _))⟩) ?_
  show vs.toArray.size ≤ sizeLine
  rw [List.size_toArray, hl, sizeLine_eq]; (first | lia | omega)
theorem gs_of_get {h : Heap} : ∀ {vs : List Value} {xs : List (Bool × List Int)}, vs.length = xs.length → (∀ (i : Nat) (v : Value) (x : Bool × List Int), vs[i]? = some v → xs[i]? = some x → Den h v (.g x.1 x.2)) → GsAre h vs xs
  | [], [], _, _ => trivial
  | v :: vs, x :: xs, hl, hd => ⟨hd 0 v x rfl rfl, gs_of_get (Nat.succ.inj hl) fun i v x => hd (i + 1) v x⟩
theorem J_of_compG {e : Expr} {xs : List (Bool × List Int)} (h : JR c env k e (fun h h' v => ∃ (a : Addr) (ys : List Value), v = .ref a ∧ h.get? a = none ∧ h'.get? a = some (listOf ys.toArray ys.length) ∧ ys.length = xs.length ∧ ∀ (i : Nat) (y : Value), ys[i]? = some y → ∃ hb : Heap, (∀ b ob, h.get? b = some ob → hb.get? b = some ob) ∧ (∃ ob, hb.get? a = some ob) ∧ NewG (xs.getD i default).1 (xs.getD i default).2 hb h' y)) :
    J c env k e (.gl xs) := fun h0 tk Q K hQ => h h0 tk Q K fun v h' tk' st z => ex2 z fun a ys z => an5 z fun e1 _ e3 e4 e5 => by
  subst e1
  refine hQ _ h' tk' st ⟨a, ys, _, rfl, e3, gs_of_get e4 fun i v x ev ex => ?_⟩
  obtain ⟨_, _, _, g⟩ := e5 i v ev
  have := g.den
  rwa [List.getD_eq_getElem?_getD, ex] at this
theorem newG_keep {b : Bool} {ns : List Int} {hb g g' : Heap} {v : Value} (r : NewG b ns hb g v) (k : ∀ b ob, hb.get? b = none → g.get? b = some ob → g'.get? b = some ob) : NewG b ns hb g' v :=
  ex3 r fun a la m q => ex2 q.2.2.2.2 fun us mm z => ⟨a, la, m, q.1, q.2.1, q.2.2.1, k _ _ q.2.1 q.2.2.2.1, us, mm, k _ _ q.2.2.1 z.1, z.2⟩
noncomputable def gDat (b : Bool) (ns : List Int) : PyData := .tuple [.bool b, .list (ns.map .int)]
theorem reads_g {h : Heap} {a : Addr} {b : Bool} {ns : List Int} (g : GAt h a b ns) : ∃ as, Reads h (.ref a) (gDat b ns) as := by
  obtain ⟨la, n, e, us, m, e2, hi⟩ := g
  have hl : h.IsList la us.toArray := ⟨_, e2, rfl, m, rfl⟩
  exact ⟨_, reads_tuple_at e rfl rfl (.cons (.bool b) (.cons (reads_newData hl (ke_carried hi)) .nil))⟩
theorem reads_gs {h : Heap} : ∀ {vs : List Value} {xs : List (Bool × List Int)}, GsAre h vs xs → ∃ as, ReadsAll h vs (xs.map fun x => gDat x.1 x.2) as
  | [], [], _ => ⟨_, .nil⟩
  | _ :: _, _ :: _, ⟨⟨a, e, g⟩, r⟩ => by
    obtain ⟨as, h1⟩ := reads_g g
    obtain ⟨bs, h2⟩ := reads_gs r
    subst e
    exact ⟨_, .cons h1 h2⟩
theorem eqv_g (b : Bool) (ns : List Int) : PyData.eqv (gDat b ns) (gDat b ns) = true := by
  unfold gDat
  simp [PyData.eqv, PyData.eqvAll, ked_eqvAll]
theorem eqv_gs : ∀ xs : List (Bool × List Int), PyData.eqvAll (xs.map fun x => gDat x.1 x.2) (xs.map fun x => gDat x.1 x.2) = true
  | [] => by simp [PyData.eqvAll]
  | x :: r => by simp [PyData.eqvAll, eqv_g, eqv_gs r]
theorem lay_g (b : Bool) (ns : List Int) : (gDat b ns).canLay0 = true ∧ (gDat b ns).depth ≤ 2 := by
  unfold gDat
  simp [PyData.canLay0, PyData.canLayAll0, PyData.depth, PyData.depthAll, ke_canLayAll0, ke_depthAll]
theorem lay_gs : ∀ xs : List (Bool × List Int), PyData.canLayAll0 (xs.map fun x => gDat x.1 x.2) = true ∧ PyData.depthAll (xs.map fun x => gDat x.1 x.2) ≤ 2
  | [] => by simp [PyData.canLayAll0, PyData.depthAll]
  | x :: r => by
    have h1 := lay_g x.1 x.2
    have h2 := lay_gs r
    simp only [List.map_cons, PyData.canLayAll0, PyData.depthAll, h1.1, h2.1, Bool.and_self, true_and]
    (first | lia | omega)
theorem op_eqg (o : c.Ok D) {b : Bool} {ns : List Int} : Op c (compareOp .Eq) (.g b ns) (.g b ns) (.b true) := by
  rintro h tk Q v u ⟨a, rfl, g⟩ ⟨a', rfl, g'⟩ hQ
  obtain ⟨as, r⟩ := reads_g g
  obtain ⟨bs, r'⟩ := reads_g g'
  have hs : SeqAt.shaped (gDat b ns) = true := by unfold SeqAt.shaped; rw [(lay_g b ns).1, Bool.true_and]; exact decide_eq_true (Nat.le_trans (lay_g b ns).2 (by decide))
  have ou := o.un
  exact eq_dataH r r' hs hs (by show c.un + 64 < cLine; unfold cLine; (first | lia | omega)) (by rw [eqv_g]; exact hQ _ h tk (srefl h) rfl)
theorem op_negl (o : c.Ok D) {xs : List (Bool × List Int)} : Op c (compareOp .NotEq) (.gl xs) (.gl xs) (.b false) := by
  rintro h tk Q v u ⟨a, us, n, rfl, e, g⟩ ⟨a', us', n', rfl, e', g'⟩ hQ
  obtain ⟨as, r⟩ := reads_gs g
  obtain ⟨bs, r'⟩ := reads_gs g'
  have hs : SeqAt.shaped (.list (xs.map fun x => gDat x.1 x.2)) = true := by
    unfold SeqAt.shaped
    simp only [PyData.canLay0, PyData.depth, (lay_gs xs).1, Bool.true_and]
    exact decide_eq_true (Nat.le_trans (Nat.succ_le_succ (lay_gs xs).2) (by decide))
  have ou := o.un
  refine ne_dataH (reads_list_at e rfl rfl r) (reads_list_at e' rfl rfl r') hs hs (by show c.un + 64 < cLine; unfold cLine; (first | lia | omega)) ?_
  rw [show PyData.eqv (.list (xs.map fun x => gDat x.1 x.2)) (.list (xs.map fun x => gDat x.1 x.2)) = true by rw [PyData.eqv, eqv_gs]]
  exact hQ _ h tk (srefl h) rfl
end

theorem fnc_limb_ones {w : World} {mean : ExcName → Option Value} {mg mb : Str → Option Value} {x : Int} (hx : 0 ≤ x) : Fnc w mean mg mb 1 "limb_ones" [.i x] (.i (pop x)) := by
  refine' fnc_intro ["limb"] ?hf ?hbind ?hloc ?hnd ?hlen ?hcell ?c2 ?c3 ?c4 ?_
  ((case hf => exact rfl); (case hcell => decide); (case hloc => decide); (case hnd => decide); (case hlen => exact rfl); (case c2 => exact rfl); (case c3 => exact rfl); (case c4 => exact rfl))
  (case hbind => (intro s _ _ _ vals hl; obtain ⟨v1, hv⟩ := List.length_eq_one_iff.mp hl; subst hv; exact BindsTo.of_eq rfl))
  intro c _ _ o hcl eo
  have hf3 : ∀ q, c.cl.lookup q = none := fun q => by rw [hcl]; rfl
  refine B_asg eo J_int (fun _ => rfl) (fun _ _ _ e => nomatch e) (hf3 _) ?_
  refine B_while (σ := Int × Int) (fun y => 0 ≤ y.1 ∧ y.2 + pop y.1 = pop x) (fun y => ⟨true, [("limb", .i y.1), ("found", .i y.2)], none⟩) (fun y => decide (0 < y.1)) (fun y => (Builtin.bitAnd y.1 (y.1 - 1), y.2 + 1)) (fun y => y.1.toNat) (x, 0) ⟨hx, by dsimp only; (first | lia | omega)⟩ (fun h K => K.sub ⟨rfl, rfl, trivial⟩) (fun _ => rfl) (fun y hy => ?_) (fun y hy hb => ?_) (fun y hy hb => ?_)
  · (repeat' (first | with_reducible exact J_int | exact J_name eo rfl rfl (hf3 _) | with_reducible refine J_bin ?_ ?_ op_add | with_reducible refine J_bin ?_ ?_ op_sub | with_reducible exact J_none | with_reducible exact J_bool | with_reducible refine J_bin ?_ ?_ op_and | with_reducible refine J_bin ?_ ?_ op_or | with_reducible refine J_bin ?_ ?_ op_xor | with_reducible refine JT_cmp ?_ ?_ op_lt | with_reducible refine JT_cmp ?_ ?_ op_gt | with_reducible refine JT_cmp ?_ ?_ op_eq | with_reducible refine JT_cmp ?_ ?_ op_ne))
  · have hb := of_decide_eq_true hb
    obtain ⟨a1, a2, a3⟩ := and_pred hb
    refine ⟨?_, ⟨a1, by dsimp only; rw [← hy.2, a3, Int.add_assoc]⟩, by dsimp only; (first | lia | omega)⟩
    refine B_asg (sv := .i (Builtin.bitAnd y.1 (y.1 - 1))) eo (by (repeat' (first | with_reducible exact J_int | exact J_name eo rfl rfl (hf3 _) | with_reducible refine J_bin ?_ ?_ op_add | with_reducible refine J_bin ?_ ?_ op_sub | with_reducible exact J_none | with_reducible exact J_bool | with_reducible refine J_bin ?_ ?_ op_and | with_reducible refine J_bin ?_ ?_ op_or | with_reducible refine J_bin ?_ ?_ op_xor | with_reducible refine JT_cmp ?_ ?_ op_lt | with_reducible refine JT_cmp ?_ ?_ op_gt | with_reducible refine JT_cmp ?_ ?_ op_eq | with_reducible refine JT_cmp ?_ ?_ op_ne))) (fun _ => rfl) (fun _ _ _ e => nomatch e) (hf3 _) ?_
    refine B_asg (sv := .i (y.2 + 1)) eo (by (repeat' (first | with_reducible exact J_int | exact J_name eo rfl rfl (hf3 _) | with_reducible refine J_bin ?_ ?_ op_add | with_reducible refine J_bin ?_ ?_ op_sub | with_reducible exact J_none | with_reducible exact J_bool | with_reducible refine J_bin ?_ ?_ op_and | with_reducible refine J_bin ?_ ?_ op_or | with_reducible refine J_bin ?_ ?_ op_xor | with_reducible refine JT_cmp ?_ ?_ op_lt | with_reducible refine JT_cmp ?_ ?_ op_gt | with_reducible refine JT_cmp ?_ ?_ op_eq | with_reducible refine JT_cmp ?_ ?_ op_ne))) (fun _ => rfl) (fun _ _ _ e => nomatch e) (hf3 _) ?_
    exact B_end ⟨rfl, rfl, trivial⟩
  · have hb := of_decide_eq_false hb
    have e : y.2 = pop x := by
      have := pop_neg (x := y.1) (by first | (with_reducible assumption) | (with_reducible exact Nat.le_trans (by assumption) (by decide)) | (with_reducible exact b0 (by assumption)) | (with_reducible exact b1 (by assumption)) | (with_reducible exact b2 (by assumption)) | (with_reducible exact Int.le_of_lt (by assumption)) | (with_reducible exact Nat.le_of_lt (by assumption)) | (with_reducible exact Int.natCast_nonneg _) | (with_reducible exact Int.le_of_lt (Int.pow_pos (by decide))) | (with_reducible exact Int.pow_pos (by decide)) | (with_reducible exact Nat.lt_of_lt_of_le (by decide) (by assumption)) | (with_reducible exact Int.ne_of_gt (by assumption)) | lia | omega)
      (first | lia | omega)
    refine B_ret ?_
    rw [← e]
    (repeat' (first | with_reducible exact J_int | exact J_name eo rfl rfl (hf3 _) | with_reducible refine J_bin ?_ ?_ op_add | with_reducible refine J_bin ?_ ?_ op_sub | with_reducible exact J_none | with_reducible exact J_bool | with_reducible refine J_bin ?_ ?_ op_and | with_reducible refine J_bin ?_ ?_ op_or | with_reducible refine J_bin ?_ ?_ op_xor | with_reducible refine JT_cmp ?_ ?_ op_lt | with_reducible refine JT_cmp ?_ ?_ op_gt | with_reducible refine JT_cmp ?_ ?_ op_eq | with_reducible refine JT_cmp ?_ ?_ op_ne))

theorem fnc_add {w : World} {mean : ExcName → Option Value} {mg mb : Str → Option Value} {n : Nat} (hn : 0 < n) (hn9 : n ≤ 1000) {X Y : Int} (hX : 0 ≤ X) (hY : 0 ≤ Y) (hlX : (limbs (2 ^ n) X).length ≤ 500) (hlY : (limbs (2 ^ n) Y).length ≤ 500) :
    Fnc w mean mg mb 1 "add" [.l (limbs (2 ^ n) X), .l (limbs (2 ^ n) Y), .i n] (.l (limbs (2 ^ n) (X + Y))) := by
  refine' fnc_intro ["a", "b", "w"] ?hf ?hbind ?hloc ?hnd ?hlen ?hcell ?c2 ?c3 ?c4 ?_
  ((case hf => exact rfl); (case hcell => decide); (case hloc => decide); (case hnd => decide); (case hlen => exact rfl); (case c2 => exact rfl); (case c3 => exact rfl); (case c4 => exact rfl))
  (case hbind => (intro s _ _ _ vals hl; obtain ⟨v1, v2, v3, hv⟩ := len3 hl; subst hv; exact BindsTo.of_eq rfl))
  intro c _ _ o hcl eo
  have hf3 : ∀ q, c.cl.lookup q = none := fun q => by rw [hcl]; rfl
  have hB := bs_gt hn
  have hh : ∃ X' Y' : Int, X' + Y' = X + Y ∧ 0 ≤ X' ∧ 0 ≤ Y' ∧ (limbs (2 ^ n) Y').length ≤ (limbs (2 ^ n) X').length ∧ (limbs (2 ^ n) X').length ≤ 500 ∧
      (((limbs (2 ^ n) X).length < (limbs (2 ^ n) Y).length ∧ X' = Y ∧ Y' = X) ∨ (¬ (limbs (2 ^ n) X).length < (limbs (2 ^ n) Y).length ∧ X' = X ∧ Y' = Y)) := by
    by_cases h : (limbs (2 ^ n) X).length < (limbs (2 ^ n) Y).length
    · exact ⟨Y, X, by lia, hY, hX, by lia, hlY, .inl ⟨h, rfl, rfl⟩⟩
    · exact ⟨X, Y, rfl, hX, hY, by lia, hlX, .inr ⟨h, rfl, rfl⟩⟩
  refine ex2 hh fun X' Y' hz => an6 hz fun hsum hX' hY' hl' hlX' hsw => ?_
  clear hh hz
  have hend := add_end hB hX' hY' hl'
  rw [hsum] at hend
  refine B_ifgo (k1 := ⟨true, [("a", .l (limbs (2 ^ n) X')), ("b", .l (limbs (2 ^ n) Y')), ("w", .i n)], none⟩) (JT_cmp (J_len eo o free_len (by (repeat' (first | with_reducible exact J_int | exact J_name eo rfl rfl (hf3 _) | with_reducible refine J_bin ?_ ?_ op_add | with_reducible refine J_bin ?_ ?_ op_sub | with_reducible exact J_none | with_reducible exact J_bool | with_reducible refine J_bin ?_ ?_ op_and | with_reducible refine J_bin ?_ ?_ op_or | with_reducible refine J_bin ?_ ?_ op_xor | with_reducible refine JT_cmp ?_ ?_ op_lt | with_reducible refine JT_cmp ?_ ?_ op_gt | with_reducible refine JT_cmp ?_ ?_ op_eq | with_reducible refine JT_cmp ?_ ?_ op_ne))) (by first | (with_reducible assumption) | (with_reducible exact Nat.le_trans (by assumption) (by decide)) | (with_reducible exact b0 (by assumption)) | (with_reducible exact b1 (by assumption)) | (with_reducible exact b2 (by assumption)) | (with_reducible exact Int.le_of_lt (by assumption)) | (with_reducible exact Nat.le_of_lt (by assumption)) | (with_reducible exact Int.natCast_nonneg _) | (with_reducible exact Int.le_of_lt (Int.pow_pos (by decide))) | (with_reducible exact Int.pow_pos (by decide)) | (with_reducible exact Nat.lt_of_lt_of_le (by decide) (by assumption)) | (with_reducible exact Int.ne_of_gt (by assumption)) | lia)) (J_len eo o free_len (by (repeat' (first | with_reducible exact J_int | exact J_name eo rfl rfl (hf3 _) | with_reducible refine J_bin ?_ ?_ op_add | with_reducible refine J_bin ?_ ?_ op_sub | with_reducible exact J_none | with_reducible exact J_bool | with_reducible refine J_bin ?_ ?_ op_and | with_reducible refine J_bin ?_ ?_ op_or | with_reducible refine J_bin ?_ ?_ op_xor | with_reducible refine JT_cmp ?_ ?_ op_lt | with_reducible refine JT_cmp ?_ ?_ op_gt | with_reducible refine JT_cmp ?_ ?_ op_eq | with_reducible refine JT_cmp ?_ ?_ op_ne))) (by first | (with_reducible assumption) | (with_reducible exact Nat.le_trans (by assumption) (by decide)) | (with_reducible exact b0 (by assumption)) | (with_reducible exact b1 (by assumption)) | (with_reducible exact b2 (by assumption)) | (with_reducible exact Int.le_of_lt (by assumption)) | (with_reducible exact Nat.le_of_lt (by assumption)) | (with_reducible exact Int.natCast_nonneg _) | (with_reducible exact Int.le_of_lt (Int.pow_pos (by decide))) | (with_reducible exact Int.pow_pos (by decide)) | (with_reducible exact Nat.lt_of_lt_of_le (by decide) (by assumption)) | (with_reducible exact Int.ne_of_gt (by assumption)) | lia)) op_lt) (fun hb => ?_) (fun hb => ?_) rfl ?_
  · have hb := of_decide_eq_true hb
    rcases hsw with ⟨_, rfl, rfl⟩ | ⟨h, _, _⟩
    · refine B_asg2 eo (JS_name eo rfl (hf3 _)) (JS_name eo rfl (hf3 _)) (fun _ _ _ e => nomatch e) (hf3 _) (hf3 _) ?_
      exact B_end ⟨rfl, rfl, rfl, trivial⟩
    · lia
  · have hb := of_decide_eq_false hb
    rcases hsw with ⟨h, _, _⟩ | ⟨_, rfl, rfl⟩
    · lia
    · exact B_end ⟨rfl, rfl, rfl, trivial⟩
  have hfl : ∀ i, (addS (2 ^ n) (limbs (2 ^ n) X') (limbs (2 ^ n) Y') i).2.length = i := fun i => (addS_inv hB (lim_limbs hB X') (lim_limbs hB Y') i).1
  generalize limbs (2 ^ n) X' = na at *
  generalize limbs (2 ^ n) Y' = nb at *
  clear hX hY hlX hlY hsum hX' hY'
  refine B_found3 eo hcl (JN_list (ns := []) Js_nil (by decide)) J_int (J_bin (J_bin J_int (by (repeat' (first | with_reducible exact J_int | exact J_name eo rfl rfl (hf3 _) | with_reducible refine J_bin ?_ ?_ op_add | with_reducible refine J_bin ?_ ?_ op_sub | with_reducible exact J_none | with_reducible exact J_bool | with_reducible refine J_bin ?_ ?_ op_and | with_reducible refine J_bin ?_ ?_ op_or | with_reducible refine J_bin ?_ ?_ op_xor | with_reducible refine JT_cmp ?_ ?_ op_lt | with_reducible refine JT_cmp ?_ ?_ op_gt | with_reducible refine JT_cmp ?_ ?_ op_eq | with_reducible refine JT_cmp ?_ ?_ op_ne))) (one_shl hn9)) J_int op_sub) ⟨rfl, rfl⟩ rfl (fun a => ?_)
  have hnx : ∀ (fd : List Int) y a' ns, some ((Str.ofString "found"), a, fd) = some (y, a', ns) → y ≠ Str.ofString "at" ∧ y ≠ Str.ofString "carry" := fun fd y a' ns e => by cases e; decide
  refine B_for nb.length (fun i => .i i) (fun i => ⟨true, [("a", .l na), ("b", .l nb), ("w", .i n), ("mask", .i (2 ^ n - 1)), ("carry", .i (addS (2 ^ n) na nb i).1)], some ("found", a, (addS (2 ^ n) na nb i).2)⟩) (fun _ => True) trivial eo
    (It_range1 eo o free_range (J_len eo o free_len (by (repeat' (first | with_reducible exact J_int | exact J_name eo rfl rfl (hf3 _) | with_reducible refine J_bin ?_ ?_ op_add | with_reducible refine J_bin ?_ ?_ op_sub | with_reducible exact J_none | with_reducible exact J_bool | with_reducible refine J_bin ?_ ?_ op_and | with_reducible refine J_bin ?_ ?_ op_or | with_reducible refine J_bin ?_ ?_ op_xor | with_reducible refine JT_cmp ?_ ?_ op_lt | with_reducible refine JT_cmp ?_ ?_ op_gt | with_reducible refine JT_cmp ?_ ?_ op_eq | with_reducible refine JT_cmp ?_ ?_ op_ne))) (by first | (with_reducible assumption) | (with_reducible exact Nat.le_trans (by assumption) (by decide)) | (with_reducible exact b0 (by assumption)) | (with_reducible exact b1 (by assumption)) | (with_reducible exact b2 (by assumption)) | (with_reducible exact Int.le_of_lt (by assumption)) | (with_reducible exact Nat.le_of_lt (by assumption)) | (with_reducible exact Int.natCast_nonneg _) | (with_reducible exact Int.le_of_lt (Int.pow_pos (by decide))) | (with_reducible exact Int.pow_pos (by decide)) | (with_reducible exact Nat.lt_of_lt_of_le (by decide) (by assumption)) | (with_reducible exact Int.ne_of_gt (by assumption)) | lia)) (by first | (with_reducible assumption) | (with_reducible exact Nat.le_trans (by assumption) (by decide)) | (with_reducible exact b0 (by assumption)) | (with_reducible exact b1 (by assumption)) | (with_reducible exact b2 (by assumption)) | (with_reducible exact Int.le_of_lt (by assumption)) | (with_reducible exact Nat.le_of_lt (by assumption)) | (with_reducible exact Int.natCast_nonneg _) | (with_reducible exact Int.le_of_lt (Int.pow_pos (by decide))) | (with_reducible exact Int.pow_pos (by decide)) | (with_reducible exact Nat.lt_of_lt_of_le (by decide) (by assumption)) | (with_reducible exact Int.ne_of_gt (by assumption)) | lia) (by first | (with_reducible assumption) | (with_reducible exact Nat.le_trans (by assumption) (by decide)) | (with_reducible exact b0 (by assumption)) | (with_reducible exact b1 (by assumption)) | (with_reducible exact b2 (by assumption)) | (with_reducible exact Int.le_of_lt (by assumption)) | (with_reducible exact Nat.le_of_lt (by assumption)) | (with_reducible exact Int.natCast_nonneg _) | (with_reducible exact Int.le_of_lt (Int.pow_pos (by decide))) | (with_reducible exact Int.pow_pos (by decide)) | (with_reducible exact Nat.lt_of_lt_of_le (by decide) (by assumption)) | (with_reducible exact Int.ne_of_gt (by assumption)) | lia) (by first | (with_reducible assumption) | (with_reducible exact Nat.le_trans (by assumption) (by decide)) | (with_reducible exact b0 (by assumption)) | (with_reducible exact b1 (by assumption)) | (with_reducible exact b2 (by assumption)) | (with_reducible exact Int.le_of_lt (by assumption)) | (with_reducible exact Nat.le_of_lt (by assumption)) | (with_reducible exact Int.natCast_nonneg _) | (with_reducible exact Int.le_of_lt (Int.pow_pos (by decide))) | (with_reducible exact Int.pow_pos (by decide)) | (with_reducible exact Nat.lt_of_lt_of_le (by decide) (by assumption)) | (with_reducible exact Int.ne_of_gt (by assumption)) | lia)) (fun h K => K.sub ⟨rfl, rfl, rfl, rfl, rfl, trivial⟩) (fun _ => rfl) (fun i y a' ns e => (hnx _ y a' ns e).1) (fun _ => rfl) (hf3 _) (fun i hi _ => .inl ⟨trivial, ?_⟩) (fun _ => ?_)
  · refine B_aug eo rfl (J_bin (J_at (by (repeat' (first | with_reducible exact J_int | exact J_name eo rfl rfl (hf3 _) | with_reducible refine J_bin ?_ ?_ op_add | with_reducible refine J_bin ?_ ?_ op_sub | with_reducible exact J_none | with_reducible exact J_bool | with_reducible refine J_bin ?_ ?_ op_and | with_reducible refine J_bin ?_ ?_ op_or | with_reducible refine J_bin ?_ ?_ op_xor | with_reducible refine JT_cmp ?_ ?_ op_lt | with_reducible refine JT_cmp ?_ ?_ op_gt | with_reducible refine JT_cmp ?_ ?_ op_eq | with_reducible refine JT_cmp ?_ ?_ op_ne))) (by (repeat' (first | with_reducible exact J_int | exact J_name eo rfl rfl (hf3 _) | with_reducible refine J_bin ?_ ?_ op_add | with_reducible refine J_bin ?_ ?_ op_sub | with_reducible exact J_none | with_reducible exact J_bool | with_reducible refine J_bin ?_ ?_ op_and | with_reducible refine J_bin ?_ ?_ op_or | with_reducible refine J_bin ?_ ?_ op_xor | with_reducible refine JT_cmp ?_ ?_ op_lt | with_reducible refine JT_cmp ?_ ?_ op_gt | with_reducible refine JT_cmp ?_ ?_ op_eq | with_reducible refine JT_cmp ?_ ?_ op_ne))) (by first | (with_reducible assumption) | (with_reducible exact Nat.le_trans (by assumption) (by decide)) | (with_reducible exact b0 (by assumption)) | (with_reducible exact b1 (by assumption)) | (with_reducible exact b2 (by assumption)) | (with_reducible exact Int.le_of_lt (by assumption)) | (with_reducible exact Nat.le_of_lt (by assumption)) | (with_reducible exact Int.natCast_nonneg _) | (with_reducible exact Int.le_of_lt (Int.pow_pos (by decide))) | (with_reducible exact Int.pow_pos (by decide)) | (with_reducible exact Nat.lt_of_lt_of_le (by decide) (by assumption)) | (with_reducible exact Int.ne_of_gt (by assumption)) | lia) (by first | (with_reducible assumption) | (with_reducible exact Nat.le_trans (by assumption) (by decide)) | (with_reducible exact b0 (by assumption)) | (with_reducible exact b1 (by assumption)) | (with_reducible exact b2 (by assumption)) | (with_reducible exact Int.le_of_lt (by assumption)) | (with_reducible exact Nat.le_of_lt (by assumption)) | (with_reducible exact Int.natCast_nonneg _) | (with_reducible exact Int.le_of_lt (Int.pow_pos (by decide))) | (with_reducible exact Int.pow_pos (by decide)) | (with_reducible exact Nat.lt_of_lt_of_le (by decide) (by assumption)) | (with_reducible exact Int.ne_of_gt (by assumption)) | lia)) (J_at (by (repeat' (first | with_reducible exact J_int | exact J_name eo rfl rfl (hf3 _) | with_reducible refine J_bin ?_ ?_ op_add | with_reducible refine J_bin ?_ ?_ op_sub | with_reducible exact J_none | with_reducible exact J_bool | with_reducible refine J_bin ?_ ?_ op_and | with_reducible refine J_bin ?_ ?_ op_or | with_reducible refine J_bin ?_ ?_ op_xor | with_reducible refine JT_cmp ?_ ?_ op_lt | with_reducible refine JT_cmp ?_ ?_ op_gt | with_reducible refine JT_cmp ?_ ?_ op_eq | with_reducible refine JT_cmp ?_ ?_ op_ne))) (by (repeat' (first | with_reducible exact J_int | exact J_name eo rfl rfl (hf3 _) | with_reducible refine J_bin ?_ ?_ op_add | with_reducible refine J_bin ?_ ?_ op_sub | with_reducible exact J_none | with_reducible exact J_bool | with_reducible refine J_bin ?_ ?_ op_and | with_reducible refine J_bin ?_ ?_ op_or | with_reducible refine J_bin ?_ ?_ op_xor | with_reducible refine JT_cmp ?_ ?_ op_lt | with_reducible refine JT_cmp ?_ ?_ op_gt | with_reducible refine JT_cmp ?_ ?_ op_eq | with_reducible refine JT_cmp ?_ ?_ op_ne))) hi (by first | (with_reducible assumption) | (with_reducible exact Nat.le_trans (by assumption) (by decide)) | (with_reducible exact b0 (by assumption)) | (with_reducible exact b1 (by assumption)) | (with_reducible exact b2 (by assumption)) | (with_reducible exact Int.le_of_lt (by assumption)) | (with_reducible exact Nat.le_of_lt (by assumption)) | (with_reducible exact Int.natCast_nonneg _) | (with_reducible exact Int.le_of_lt (Int.pow_pos (by decide))) | (with_reducible exact Int.pow_pos (by decide)) | (with_reducible exact Nat.lt_of_lt_of_le (by decide) (by assumption)) | (with_reducible exact Int.ne_of_gt (by assumption)) | lia)) op_add) iop_add (fun _ => rfl) (fun y a' ns e => (hnx _ y a' ns e).2) (hf3 _) ?_
    refine B_append eo rfl (J_bin (by (repeat' (first | with_reducible exact J_int | exact J_name eo rfl rfl (hf3 _) | with_reducible refine J_bin ?_ ?_ op_add | with_reducible refine J_bin ?_ ?_ op_sub | with_reducible exact J_none | with_reducible exact J_bool | with_reducible refine J_bin ?_ ?_ op_and | with_reducible refine J_bin ?_ ?_ op_or | with_reducible refine J_bin ?_ ?_ op_xor | with_reducible refine JT_cmp ?_ ?_ op_lt | with_reducible refine JT_cmp ?_ ?_ op_gt | with_reducible refine JT_cmp ?_ ?_ op_eq | with_reducible refine JT_cmp ?_ ?_ op_ne))) (by (repeat' (first | with_reducible exact J_int | exact J_name eo rfl rfl (hf3 _) | with_reducible refine J_bin ?_ ?_ op_add | with_reducible refine J_bin ?_ ?_ op_sub | with_reducible exact J_none | with_reducible exact J_bool | with_reducible refine J_bin ?_ ?_ op_and | with_reducible refine J_bin ?_ ?_ op_or | with_reducible refine J_bin ?_ ?_ op_xor | with_reducible refine JT_cmp ?_ ?_ op_lt | with_reducible refine JT_cmp ?_ ?_ op_gt | with_reducible refine JT_cmp ?_ ?_ op_eq | with_reducible refine JT_cmp ?_ ?_ op_ne))) op_mask) (by rw [hfl]; lia) ?_
    refine B_aug eo rfl (by (repeat' (first | with_reducible exact J_int | exact J_name eo rfl rfl (hf3 _) | with_reducible refine J_bin ?_ ?_ op_add | with_reducible refine J_bin ?_ ?_ op_sub | with_reducible exact J_none | with_reducible exact J_bool | with_reducible refine J_bin ?_ ?_ op_and | with_reducible refine J_bin ?_ ?_ op_or | with_reducible refine J_bin ?_ ?_ op_xor | with_reducible refine JT_cmp ?_ ?_ op_lt | with_reducible refine JT_cmp ?_ ?_ op_gt | with_reducible refine JT_cmp ?_ ?_ op_eq | with_reducible refine JT_cmp ?_ ?_ op_ne))) iop_shrN (fun _ => rfl) (fun y a' ns e => (hnx _ y a' ns e).2) (hf3 _) ?_
    exact B_end ⟨rfl, rfl, rfl, rfl, rfl, trivial⟩
  refine B_for (na.length - nb.length) (fun i => .i ((nb.length + i : Nat) : Int)) (fun i => ⟨true, [("a", .l na), ("w", .i n), ("mask", .i (2 ^ n - 1)), ("carry", .i (addS (2 ^ n) na nb (nb.length + i)).1)], some ("found", a, (addS (2 ^ n) na nb (nb.length + i)).2)⟩) (fun _ => True) trivial eo
    (It_range2N eo o free_range (J_len eo o free_len (by (repeat' (first | with_reducible exact J_int | exact J_name eo rfl rfl (hf3 _) | with_reducible refine J_bin ?_ ?_ op_add | with_reducible refine J_bin ?_ ?_ op_sub | with_reducible exact J_none | with_reducible exact J_bool | with_reducible refine J_bin ?_ ?_ op_and | with_reducible refine J_bin ?_ ?_ op_or | with_reducible refine J_bin ?_ ?_ op_xor | with_reducible refine JT_cmp ?_ ?_ op_lt | with_reducible refine JT_cmp ?_ ?_ op_gt | with_reducible refine JT_cmp ?_ ?_ op_eq | with_reducible refine JT_cmp ?_ ?_ op_ne))) (by first | (with_reducible assumption) | (with_reducible exact Nat.le_trans (by assumption) (by decide)) | (with_reducible exact b0 (by assumption)) | (with_reducible exact b1 (by assumption)) | (with_reducible exact b2 (by assumption)) | (with_reducible exact Int.le_of_lt (by assumption)) | (with_reducible exact Nat.le_of_lt (by assumption)) | (with_reducible exact Int.natCast_nonneg _) | (with_reducible exact Int.le_of_lt (Int.pow_pos (by decide))) | (with_reducible exact Int.pow_pos (by decide)) | (with_reducible exact Nat.lt_of_lt_of_le (by decide) (by assumption)) | (with_reducible exact Int.ne_of_gt (by assumption)) | lia)) (J_len eo o free_len (by (repeat' (first | with_reducible exact J_int | exact J_name eo rfl rfl (hf3 _) | with_reducible refine J_bin ?_ ?_ op_add | with_reducible refine J_bin ?_ ?_ op_sub | with_reducible exact J_none | with_reducible exact J_bool | with_reducible refine J_bin ?_ ?_ op_and | with_reducible refine J_bin ?_ ?_ op_or | with_reducible refine J_bin ?_ ?_ op_xor | with_reducible refine JT_cmp ?_ ?_ op_lt | with_reducible refine JT_cmp ?_ ?_ op_gt | with_reducible refine JT_cmp ?_ ?_ op_eq | with_reducible refine JT_cmp ?_ ?_ op_ne))) (by first | (with_reducible assumption) | (with_reducible exact Nat.le_trans (by assumption) (by decide)) | (with_reducible exact b0 (by assumption)) | (with_reducible exact b1 (by assumption)) | (with_reducible exact b2 (by assumption)) | (with_reducible exact Int.le_of_lt (by assumption)) | (with_reducible exact Nat.le_of_lt (by assumption)) | (with_reducible exact Int.natCast_nonneg _) | (with_reducible exact Int.le_of_lt (Int.pow_pos (by decide))) | (with_reducible exact Int.pow_pos (by decide)) | (with_reducible exact Nat.lt_of_lt_of_le (by decide) (by assumption)) | (with_reducible exact Int.ne_of_gt (by assumption)) | lia)) (by first | (with_reducible assumption) | (with_reducible exact Nat.le_trans (by assumption) (by decide)) | (with_reducible exact b0 (by assumption)) | (with_reducible exact b1 (by assumption)) | (with_reducible exact b2 (by assumption)) | (with_reducible exact Int.le_of_lt (by assumption)) | (with_reducible exact Nat.le_of_lt (by assumption)) | (with_reducible exact Int.natCast_nonneg _) | (with_reducible exact Int.le_of_lt (Int.pow_pos (by decide))) | (with_reducible exact Int.pow_pos (by decide)) | (with_reducible exact Nat.lt_of_lt_of_le (by decide) (by assumption)) | (with_reducible exact Int.ne_of_gt (by assumption)) | lia) (by first | (with_reducible assumption) | (with_reducible exact Nat.le_trans (by assumption) (by decide)) | (with_reducible exact b0 (by assumption)) | (with_reducible exact b1 (by assumption)) | (with_reducible exact b2 (by assumption)) | (with_reducible exact Int.le_of_lt (by assumption)) | (with_reducible exact Nat.le_of_lt (by assumption)) | (with_reducible exact Int.natCast_nonneg _) | (with_reducible exact Int.le_of_lt (Int.pow_pos (by decide))) | (with_reducible exact Int.pow_pos (by decide)) | (with_reducible exact Nat.lt_of_lt_of_le (by decide) (by assumption)) | (with_reducible exact Int.ne_of_gt (by assumption)) | lia) rfl) (fun h K => K.sub ⟨rfl, rfl, rfl, rfl, trivial⟩) (fun _ => rfl) (fun i y a' ns e => (hnx _ y a' ns e).1) (fun _ => rfl) (hf3 _) (fun i hi _ => .inl ⟨trivial, ?_⟩) (fun _ => ?_)
  · have hy0 : nb.getD (nb.length + i) 0 = 0 := by simp [List.getD_eq_getElem?_getD]
    have hst : addS (2 ^ n) na nb (nb.length + (i + 1)) = (((addS (2 ^ n) na nb (nb.length + i)).1 + na.getD (nb.length + i) 0) / 2 ^ n, (addS (2 ^ n) na nb (nb.length + i)).2 ++ [((addS (2 ^ n) na nb (nb.length + i)).1 + na.getD (nb.length + i) 0) % 2 ^ n]) := by
      rw [← Nat.add_assoc, addS, hy0, Int.add_zero]
    rw [hst]
    refine B_aug eo rfl (J_at (by (repeat' (first | with_reducible exact J_int | exact J_name eo rfl rfl (hf3 _) | with_reducible refine J_bin ?_ ?_ op_add | with_reducible refine J_bin ?_ ?_ op_sub | with_reducible exact J_none | with_reducible exact J_bool | with_reducible refine J_bin ?_ ?_ op_and | with_reducible refine J_bin ?_ ?_ op_or | with_reducible refine J_bin ?_ ?_ op_xor | with_reducible refine JT_cmp ?_ ?_ op_lt | with_reducible refine JT_cmp ?_ ?_ op_gt | with_reducible refine JT_cmp ?_ ?_ op_eq | with_reducible refine JT_cmp ?_ ?_ op_ne))) (by (repeat' (first | with_reducible exact J_int | exact J_name eo rfl rfl (hf3 _) | with_reducible refine J_bin ?_ ?_ op_add | with_reducible refine J_bin ?_ ?_ op_sub | with_reducible exact J_none | with_reducible exact J_bool | with_reducible refine J_bin ?_ ?_ op_and | with_reducible refine J_bin ?_ ?_ op_or | with_reducible refine J_bin ?_ ?_ op_xor | with_reducible refine JT_cmp ?_ ?_ op_lt | with_reducible refine JT_cmp ?_ ?_ op_gt | with_reducible refine JT_cmp ?_ ?_ op_eq | with_reducible refine JT_cmp ?_ ?_ op_ne))) (by first | (with_reducible assumption) | (with_reducible exact Nat.le_trans (by assumption) (by decide)) | (with_reducible exact b0 (by assumption)) | (with_reducible exact b1 (by assumption)) | (with_reducible exact b2 (by assumption)) | (with_reducible exact Int.le_of_lt (by assumption)) | (with_reducible exact Nat.le_of_lt (by assumption)) | (with_reducible exact Int.natCast_nonneg _) | (with_reducible exact Int.le_of_lt (Int.pow_pos (by decide))) | (with_reducible exact Int.pow_pos (by decide)) | (with_reducible exact Nat.lt_of_lt_of_le (by decide) (by assumption)) | (with_reducible exact Int.ne_of_gt (by assumption)) | lia) (by first | (with_reducible assumption) | (with_reducible exact Nat.le_trans (by assumption) (by decide)) | (with_reducible exact b0 (by assumption)) | (with_reducible exact b1 (by assumption)) | (with_reducible exact b2 (by assumption)) | (with_reducible exact Int.le_of_lt (by assumption)) | (with_reducible exact Nat.le_of_lt (by assumption)) | (with_reducible exact Int.natCast_nonneg _) | (with_reducible exact Int.le_of_lt (Int.pow_pos (by decide))) | (with_reducible exact Int.pow_pos (by decide)) | (with_reducible exact Nat.lt_of_lt_of_le (by decide) (by assumption)) | (with_reducible exact Int.ne_of_gt (by assumption)) | lia)) iop_add (fun _ => rfl) (fun y a' ns e => (hnx _ y a' ns e).2) (hf3 _) ?_
    refine B_append eo rfl (J_bin (by (repeat' (first | with_reducible exact J_int | exact J_name eo rfl rfl (hf3 _) | with_reducible refine J_bin ?_ ?_ op_add | with_reducible refine J_bin ?_ ?_ op_sub | with_reducible exact J_none | with_reducible exact J_bool | with_reducible refine J_bin ?_ ?_ op_and | with_reducible refine J_bin ?_ ?_ op_or | with_reducible refine J_bin ?_ ?_ op_xor | with_reducible refine JT_cmp ?_ ?_ op_lt | with_reducible refine JT_cmp ?_ ?_ op_gt | with_reducible refine JT_cmp ?_ ?_ op_eq | with_reducible refine JT_cmp ?_ ?_ op_ne))) (by (repeat' (first | with_reducible exact J_int | exact J_name eo rfl rfl (hf3 _) | with_reducible refine J_bin ?_ ?_ op_add | with_reducible refine J_bin ?_ ?_ op_sub | with_reducible exact J_none | with_reducible exact J_bool | with_reducible refine J_bin ?_ ?_ op_and | with_reducible refine J_bin ?_ ?_ op_or | with_reducible refine J_bin ?_ ?_ op_xor | with_reducible refine JT_cmp ?_ ?_ op_lt | with_reducible refine JT_cmp ?_ ?_ op_gt | with_reducible refine JT_cmp ?_ ?_ op_eq | with_reducible refine JT_cmp ?_ ?_ op_ne))) op_mask) (by rw [hfl]; lia) ?_
    refine B_aug eo rfl (by (repeat' (first | with_reducible exact J_int | exact J_name eo rfl rfl (hf3 _) | with_reducible refine J_bin ?_ ?_ op_add | with_reducible refine J_bin ?_ ?_ op_sub | with_reducible exact J_none | with_reducible exact J_bool | with_reducible refine J_bin ?_ ?_ op_and | with_reducible refine J_bin ?_ ?_ op_or | with_reducible refine J_bin ?_ ?_ op_xor | with_reducible refine JT_cmp ?_ ?_ op_lt | with_reducible refine JT_cmp ?_ ?_ op_gt | with_reducible refine JT_cmp ?_ ?_ op_eq | with_reducible refine JT_cmp ?_ ?_ op_ne))) iop_shrN (fun _ => rfl) (fun y a' ns e => (hnx _ y a' ns e).2) (hf3 _) ?_
    exact B_end ⟨rfl, rfl, rfl, rfl, trivial⟩
  have hle : nb.length + (na.length - nb.length) = na.length := by lia
  rw [hle]
  generalize hcr : (addS (2 ^ n) na nb na.length).1 = cr at hend
  generalize hfd : (addS (2 ^ n) na nb na.length).2 = fd at hend
  have hfl2 := hfl na.length
  rw [hfd] at hfl2
  by_cases hc : 0 < cr
  · refine B_ifgo (k1 := ⟨true, [], some ("found", a, limbs (2 ^ n) (X + Y))⟩) (by (repeat' (first | with_reducible exact J_int | exact J_name eo rfl rfl (hf3 _) | with_reducible refine J_bin ?_ ?_ op_add | with_reducible refine J_bin ?_ ?_ op_sub | with_reducible exact J_none | with_reducible exact J_bool | with_reducible refine J_bin ?_ ?_ op_and | with_reducible refine J_bin ?_ ?_ op_or | with_reducible refine J_bin ?_ ?_ op_xor | with_reducible refine JT_cmp ?_ ?_ op_lt | with_reducible refine JT_cmp ?_ ?_ op_gt | with_reducible refine JT_cmp ?_ ?_ op_eq | with_reducible refine JT_cmp ?_ ?_ op_ne))) (fun _ => ?_) (fun hb => absurd hc (of_decide_eq_false hb)) rfl (B_ret (J_found eo rfl))
    refine B_append eo rfl (by (repeat' (first | with_reducible exact J_int | exact J_name eo rfl rfl (hf3 _) | with_reducible refine J_bin ?_ ?_ op_add | with_reducible refine J_bin ?_ ?_ op_sub | with_reducible exact J_none | with_reducible exact J_bool | with_reducible refine J_bin ?_ ?_ op_and | with_reducible refine J_bin ?_ ?_ op_or | with_reducible refine J_bin ?_ ?_ op_xor | with_reducible refine JT_cmp ?_ ?_ op_lt | with_reducible refine JT_cmp ?_ ?_ op_gt | with_reducible refine JT_cmp ?_ ?_ op_eq | with_reducible refine JT_cmp ?_ ?_ op_ne))) (by first | (with_reducible assumption) | (with_reducible exact Nat.le_trans (by assumption) (by decide)) | (with_reducible exact b0 (by assumption)) | (with_reducible exact b1 (by assumption)) | (with_reducible exact b2 (by assumption)) | (with_reducible exact Int.le_of_lt (by assumption)) | (with_reducible exact Nat.le_of_lt (by assumption)) | (with_reducible exact Int.natCast_nonneg _) | (with_reducible exact Int.le_of_lt (Int.pow_pos (by decide))) | (with_reducible exact Int.pow_pos (by decide)) | (with_reducible exact Nat.lt_of_lt_of_le (by decide) (by assumption)) | (with_reducible exact Int.ne_of_gt (by assumption)) | lia) ?_
    rw [hend.1 hc]
    exact B_end trivial
  · refine B_ifgo (k1 := ⟨true, [], some ("found", a, limbs (2 ^ n) (X + Y))⟩) (by (repeat' (first | with_reducible exact J_int | exact J_name eo rfl rfl (hf3 _) | with_reducible refine J_bin ?_ ?_ op_add | with_reducible refine J_bin ?_ ?_ op_sub | with_reducible exact J_none | with_reducible exact J_bool | with_reducible refine J_bin ?_ ?_ op_and | with_reducible refine J_bin ?_ ?_ op_or | with_reducible refine J_bin ?_ ?_ op_xor | with_reducible refine JT_cmp ?_ ?_ op_lt | with_reducible refine JT_cmp ?_ ?_ op_gt | with_reducible refine JT_cmp ?_ ?_ op_eq | with_reducible refine JT_cmp ?_ ?_ op_ne))) (fun hb => absurd (of_decide_eq_true hb) hc) (fun _ => ?_) rfl (B_ret (J_found eo rfl))
    rw [hend.2 hc]
    exact B_end trivial

theorem cmpI_lt {X Y : Int} (h : X < Y) : cmpI X Y = -1 := if_pos h
theorem cmpI_gt {X Y : Int} (h : Y < X) : cmpI X Y = 1 := by unfold cmpI; rw [if_neg (by first | (with_reducible assumption) | (with_reducible exact Nat.le_trans (by assumption) (by decide)) | (with_reducible exact b0 (by assumption)) | (with_reducible exact b1 (by assumption)) | (with_reducible exact b2 (by assumption)) | (with_reducible exact Int.le_of_lt (by assumption)) | (with_reducible exact Nat.le_of_lt (by assumption)) | (with_reducible exact Int.natCast_nonneg _) | (with_reducible exact Int.le_of_lt (Int.pow_pos (by decide))) | (with_reducible exact Int.pow_pos (by decide)) | (with_reducible exact Nat.lt_of_lt_of_le (by decide) (by assumption)) | (with_reducible exact Int.ne_of_gt (by assumption)) | lia), if_pos h]
theorem cmpI_eq (X : Int) : cmpI X X = 0 := by unfold cmpI; rw [if_neg (by first | (with_reducible assumption) | (with_reducible exact Nat.le_trans (by assumption) (by decide)) | (with_reducible exact b0 (by assumption)) | (with_reducible exact b1 (by assumption)) | (with_reducible exact b2 (by assumption)) | (with_reducible exact Int.le_of_lt (by assumption)) | (with_reducible exact Nat.le_of_lt (by assumption)) | (with_reducible exact Int.natCast_nonneg _) | (with_reducible exact Int.le_of_lt (Int.pow_pos (by decide))) | (with_reducible exact Int.pow_pos (by decide)) | (with_reducible exact Nat.lt_of_lt_of_le (by decide) (by assumption)) | (with_reducible exact Int.ne_of_gt (by assumption)) | lia), if_neg (by first | (with_reducible assumption) | (with_reducible exact Nat.le_trans (by assumption) (by decide)) | (with_reducible exact b0 (by assumption)) | (with_reducible exact b1 (by assumption)) | (with_reducible exact b2 (by assumption)) | (with_reducible exact Int.le_of_lt (by assumption)) | (with_reducible exact Nat.le_of_lt (by assumption)) | (with_reducible exact Int.natCast_nonneg _) | (with_reducible exact Int.le_of_lt (Int.pow_pos (by decide))) | (with_reducible exact Int.pow_pos (by decide)) | (with_reducible exact Nat.lt_of_lt_of_le (by decide) (by assumption)) | (with_reducible exact Int.ne_of_gt (by assumption)) | lia)]
theorem fnc_compare {w : World} {mean : ExcName → Option Value} {mg mb : Str → Option Value} {B₀ : Int} (hB : 1 < B₀) {X Y : Int} (hX : 0 ≤ X) (hY : 0 ≤ Y) (hlX : (limbs B₀ X).length ≤ 500) (hlY : (limbs B₀ Y).length ≤ 500) :
    Fnc w mean mg mb 1 "compare" [.l (limbs B₀ X), .l (limbs B₀ Y)] (.i (cmpI X Y)) := by
  have a1 := limbs_len_mono hB hX (Y := Y)
  have a2 := limbs_len_mono hB hY (Y := X)
  have va := val_limbs hB hX
  have vb := val_limbs hB hY
  have la := lim_limbs hB X
  have lb := lim_limbs hB Y
  generalize limbs B₀ X = na at *
  generalize limbs B₀ Y = nb at *
  refine' fnc_intro ["a", "b"] ?hf ?hbind ?hloc ?hnd ?hlen ?hcell ?c2 ?c3 ?c4 ?_
  ((case hf => exact rfl); (case hcell => decide); (case hloc => decide); (case hnd => decide); (case hlen => exact rfl); (case c2 => exact rfl); (case c3 => exact rfl); (case c4 => exact rfl))
  (case hbind => (intro s _ _ _ vals hl; obtain ⟨v1, v2, hv⟩ := len2 hl; subst hv; exact BindsTo.of_eq rfl))
  intro c _ _ o hcl eo
  have hf3 : ∀ q, c.cl.lookup q = none := fun q => by rw [hcl]; rfl
  refine B_ifret (JT_cmp (J_len eo o free_len (J_name eo rfl rfl (hf3 _)) (by first | (with_reducible assumption) | (with_reducible exact Nat.le_trans (by assumption) (by decide)) | (with_reducible exact b0 (by assumption)) | (with_reducible exact b1 (by assumption)) | (with_reducible exact b2 (by assumption)) | (with_reducible exact Int.le_of_lt (by assumption)) | (with_reducible exact Nat.le_of_lt (by assumption)) | (with_reducible exact Int.natCast_nonneg _) | (with_reducible exact Int.le_of_lt (Int.pow_pos (by decide))) | (with_reducible exact Int.pow_pos (by decide)) | (with_reducible exact Nat.lt_of_lt_of_le (by decide) (by assumption)) | (with_reducible exact Int.ne_of_gt (by assumption)) | lia)) (J_len eo o free_len (J_name eo rfl rfl (hf3 _)) (by first | (with_reducible assumption) | (with_reducible exact Nat.le_trans (by assumption) (by decide)) | (with_reducible exact b0 (by assumption)) | (with_reducible exact b1 (by assumption)) | (with_reducible exact b2 (by assumption)) | (with_reducible exact Int.le_of_lt (by assumption)) | (with_reducible exact Nat.le_of_lt (by assumption)) | (with_reducible exact Int.natCast_nonneg _) | (with_reducible exact Int.le_of_lt (Int.pow_pos (by decide))) | (with_reducible exact Int.pow_pos (by decide)) | (with_reducible exact Nat.lt_of_lt_of_le (by decide) (by assumption)) | (with_reducible exact Int.ne_of_gt (by assumption)) | lia)) op_ne) (fun hb => ?_) (fun hb => ?_)
  · have hne : na.length ≠ nb.length := fun q => by rw [q] at hb; simp at hb
    refine B_ret (J_if (JT_cmp (J_len eo o free_len (J_name eo rfl rfl (hf3 _)) (by first | (with_reducible assumption) | (with_reducible exact Nat.le_trans (by assumption) (by decide)) | (with_reducible exact b0 (by assumption)) | (with_reducible exact b1 (by assumption)) | (with_reducible exact b2 (by assumption)) | (with_reducible exact Int.le_of_lt (by assumption)) | (with_reducible exact Nat.le_of_lt (by assumption)) | (with_reducible exact Int.natCast_nonneg _) | (with_reducible exact Int.le_of_lt (Int.pow_pos (by decide))) | (with_reducible exact Int.pow_pos (by decide)) | (with_reducible exact Nat.lt_of_lt_of_le (by decide) (by assumption)) | (with_reducible exact Int.ne_of_gt (by assumption)) | lia)) (J_len eo o free_len (J_name eo rfl rfl (hf3 _)) (by first | (with_reducible assumption) | (with_reducible exact Nat.le_trans (by assumption) (by decide)) | (with_reducible exact b0 (by assumption)) | (with_reducible exact b1 (by assumption)) | (with_reducible exact b2 (by assumption)) | (with_reducible exact Int.le_of_lt (by assumption)) | (with_reducible exact Nat.le_of_lt (by assumption)) | (with_reducible exact Int.natCast_nonneg _) | (with_reducible exact Int.le_of_lt (Int.pow_pos (by decide))) | (with_reducible exact Int.pow_pos (by decide)) | (with_reducible exact Nat.lt_of_lt_of_le (by decide) (by assumption)) | (with_reducible exact Int.ne_of_gt (by assumption)) | lia)) op_lt) (fun h => ?_) (fun h => ?_))
    · rw [cmpI_lt (by have := of_decide_eq_true h; lia)]
      exact J_neg J_int
    · rw [cmpI_gt (by have := of_decide_eq_false h; lia)]
      exact J_int
  · have he : na.length = nb.length := by have : (na.length : Int) = nb.length := by simpa using hb
                                          lia
    refine B_for na.length (fun i => .i ((na.length : Int) - 1 - i)) (fun _ => ⟨true, [("a", .l na), ("b", .l nb)], none⟩) (fun i => ∀ j, na.length - i ≤ j → na.getD j 0 = nb.getD j 0) (fun j hj => by simp [List.getD_eq_getElem?_getD, show na.length ≤ j by omega, show nb.length ≤ j by lia]) eo
      (It_down eo o free_range (J_bin (J_len eo o free_len (J_name eo rfl rfl (hf3 _)) (by first | (with_reducible assumption) | (with_reducible exact Nat.le_trans (by assumption) (by decide)) | (with_reducible exact b0 (by assumption)) | (with_reducible exact b1 (by assumption)) | (with_reducible exact b2 (by assumption)) | (with_reducible exact Int.le_of_lt (by assumption)) | (with_reducible exact Nat.le_of_lt (by assumption)) | (with_reducible exact Int.natCast_nonneg _) | (with_reducible exact Int.le_of_lt (Int.pow_pos (by decide))) | (with_reducible exact Int.pow_pos (by decide)) | (with_reducible exact Nat.lt_of_lt_of_le (by decide) (by assumption)) | (with_reducible exact Int.ne_of_gt (by assumption)) | lia)) J_int op_sub) (J_neg J_int) (J_neg J_int) (by first | (with_reducible assumption) | (with_reducible exact Nat.le_trans (by assumption) (by decide)) | (with_reducible exact b0 (by assumption)) | (with_reducible exact b1 (by assumption)) | (with_reducible exact b2 (by assumption)) | (with_reducible exact Int.le_of_lt (by assumption)) | (with_reducible exact Nat.le_of_lt (by assumption)) | (with_reducible exact Int.natCast_nonneg _) | (with_reducible exact Int.le_of_lt (Int.pow_pos (by decide))) | (with_reducible exact Int.pow_pos (by decide)) | (with_reducible exact Nat.lt_of_lt_of_le (by decide) (by assumption)) | (with_reducible exact Int.ne_of_gt (by assumption)) | lia) (by first | (with_reducible assumption) | (with_reducible exact Nat.le_trans (by assumption) (by decide)) | (with_reducible exact b0 (by assumption)) | (with_reducible exact b1 (by assumption)) | (with_reducible exact b2 (by assumption)) | (with_reducible exact Int.le_of_lt (by assumption)) | (with_reducible exact Nat.le_of_lt (by assumption)) | (with_reducible exact Int.natCast_nonneg _) | (with_reducible exact Int.le_of_lt (Int.pow_pos (by decide))) | (with_reducible exact Int.pow_pos (by decide)) | (with_reducible exact Nat.lt_of_lt_of_le (by decide) (by assumption)) | (with_reducible exact Int.ne_of_gt (by assumption)) | lia) (by first | (with_reducible assumption) | (with_reducible exact Nat.le_trans (by assumption) (by decide)) | (with_reducible exact b0 (by assumption)) | (with_reducible exact b1 (by assumption)) | (with_reducible exact b2 (by assumption)) | (with_reducible exact Int.le_of_lt (by assumption)) | (with_reducible exact Nat.le_of_lt (by assumption)) | (with_reducible exact Int.natCast_nonneg _) | (with_reducible exact Int.le_of_lt (Int.pow_pos (by decide))) | (with_reducible exact Int.pow_pos (by decide)) | (with_reducible exact Nat.lt_of_lt_of_le (by decide) (by assumption)) | (with_reducible exact Int.ne_of_gt (by assumption)) | lia)) (fun h K => K) (fun _ => rfl) (fun _ _ _ _ e => nomatch e) (fun _ => rfl) (hf3 _) (fun i hi hP => ?_) (fun hP => ?_)
    · have e1 : SV.i ((na.length : Int) - 1 - i) = SV.i ((na.length - 1 - i : Nat) : Int) := by congr 1; lia
      have h1 : na.length - 1 - i < na.length := by lia
      have h2 : na.length - 1 - i < nb.length := by lia
      by_cases hd : na.getD (na.length - 1 - i) 0 = nb.getD (na.length - 1 - i) 0
      · refine .inl ⟨fun j hj => ?_, B_ifret (JT_cmp (J_at (J_name eo rfl rfl (hf3 _)) (J_cast (J_name eo rfl rfl (hf3 _)) e1) h1 (by first | (with_reducible assumption) | (with_reducible exact Nat.le_trans (by assumption) (by decide)) | (with_reducible exact b0 (by assumption)) | (with_reducible exact b1 (by assumption)) | (with_reducible exact b2 (by assumption)) | (with_reducible exact Int.le_of_lt (by assumption)) | (with_reducible exact Nat.le_of_lt (by assumption)) | (with_reducible exact Int.natCast_nonneg _) | (with_reducible exact Int.le_of_lt (Int.pow_pos (by decide))) | (with_reducible exact Int.pow_pos (by decide)) | (with_reducible exact Nat.lt_of_lt_of_le (by decide) (by assumption)) | (with_reducible exact Int.ne_of_gt (by assumption)) | lia)) (J_at (J_name eo rfl rfl (hf3 _)) (J_cast (J_name eo rfl rfl (hf3 _)) e1) h2 (by first | (with_reducible assumption) | (with_reducible exact Nat.le_trans (by assumption) (by decide)) | (with_reducible exact b0 (by assumption)) | (with_reducible exact b1 (by assumption)) | (with_reducible exact b2 (by assumption)) | (with_reducible exact Int.le_of_lt (by assumption)) | (with_reducible exact Nat.le_of_lt (by assumption)) | (with_reducible exact Int.natCast_nonneg _) | (with_reducible exact Int.le_of_lt (Int.pow_pos (by decide))) | (with_reducible exact Int.pow_pos (by decide)) | (with_reducible exact Nat.lt_of_lt_of_le (by decide) (by assumption)) | (with_reducible exact Int.ne_of_gt (by assumption)) | lia)) op_ne) (fun hb => by rw [hd] at hb; simp at hb) (fun _ => B_end ⟨rfl, rfl, trivial⟩)⟩
        by_cases hj' : j = na.length - 1 - i
        · rw [hj']; exact hd
        · exact hP j (by first | (with_reducible assumption) | (with_reducible exact Nat.le_trans (by assumption) (by decide)) | (with_reducible exact b0 (by assumption)) | (with_reducible exact b1 (by assumption)) | (with_reducible exact b2 (by assumption)) | (with_reducible exact Int.le_of_lt (by assumption)) | (with_reducible exact Nat.le_of_lt (by assumption)) | (with_reducible exact Int.natCast_nonneg _) | (with_reducible exact Int.le_of_lt (Int.pow_pos (by decide))) | (with_reducible exact Int.pow_pos (by decide)) | (with_reducible exact Nat.lt_of_lt_of_le (by decide) (by assumption)) | (with_reducible exact Int.ne_of_gt (by assumption)) | lia)
      · refine .inr (B_ifret (JT_cmp (J_at (J_name eo rfl rfl (hf3 _)) (J_cast (J_name eo rfl rfl (hf3 _)) e1) h1 (by first | (with_reducible assumption) | (with_reducible exact Nat.le_trans (by assumption) (by decide)) | (with_reducible exact b0 (by assumption)) | (with_reducible exact b1 (by assumption)) | (with_reducible exact b2 (by assumption)) | (with_reducible exact Int.le_of_lt (by assumption)) | (with_reducible exact Nat.le_of_lt (by assumption)) | (with_reducible exact Int.natCast_nonneg _) | (with_reducible exact Int.le_of_lt (Int.pow_pos (by decide))) | (with_reducible exact Int.pow_pos (by decide)) | (with_reducible exact Nat.lt_of_lt_of_le (by decide) (by assumption)) | (with_reducible exact Int.ne_of_gt (by assumption)) | lia)) (J_at (J_name eo rfl rfl (hf3 _)) (J_cast (J_name eo rfl rfl (hf3 _)) e1) h2 (by first | (with_reducible assumption) | (with_reducible exact Nat.le_trans (by assumption) (by decide)) | (with_reducible exact b0 (by assumption)) | (with_reducible exact b1 (by assumption)) | (with_reducible exact b2 (by assumption)) | (with_reducible exact Int.le_of_lt (by assumption)) | (with_reducible exact Nat.le_of_lt (by assumption)) | (with_reducible exact Int.natCast_nonneg _) | (with_reducible exact Int.le_of_lt (Int.pow_pos (by decide))) | (with_reducible exact Int.pow_pos (by decide)) | (with_reducible exact Nat.lt_of_lt_of_le (by decide) (by assumption)) | (with_reducible exact Int.ne_of_gt (by assumption)) | lia)) op_ne) (fun _ => ?_) (fun hb => absurd (by simpa using hb) hd))
        refine B_ret (J_if (JT_cmp (J_at (J_name eo rfl rfl (hf3 _)) (J_cast (J_name eo rfl rfl (hf3 _)) e1) h1 (by first | (with_reducible assumption) | (with_reducible exact Nat.le_trans (by assumption) (by decide)) | (with_reducible exact b0 (by assumption)) | (with_reducible exact b1 (by assumption)) | (with_reducible exact b2 (by assumption)) | (with_reducible exact Int.le_of_lt (by assumption)) | (with_reducible exact Nat.le_of_lt (by assumption)) | (with_reducible exact Int.natCast_nonneg _) | (with_reducible exact Int.le_of_lt (Int.pow_pos (by decide))) | (with_reducible exact Int.pow_pos (by decide)) | (with_reducible exact Nat.lt_of_lt_of_le (by decide) (by assumption)) | (with_reducible exact Int.ne_of_gt (by assumption)) | lia)) (J_at (J_name eo rfl rfl (hf3 _)) (J_cast (J_name eo rfl rfl (hf3 _)) e1) h2 (by first | (with_reducible assumption) | (with_reducible exact Nat.le_trans (by assumption) (by decide)) | (with_reducible exact b0 (by assumption)) | (with_reducible exact b1 (by assumption)) | (with_reducible exact b2 (by assumption)) | (with_reducible exact Int.le_of_lt (by assumption)) | (with_reducible exact Nat.le_of_lt (by assumption)) | (with_reducible exact Int.natCast_nonneg _) | (with_reducible exact Int.le_of_lt (Int.pow_pos (by decide))) | (with_reducible exact Int.pow_pos (by decide)) | (with_reducible exact Nat.lt_of_lt_of_le (by decide) (by assumption)) | (with_reducible exact Int.ne_of_gt (by assumption)) | lia)) op_lt) (fun h => ?_) (fun h => ?_))
        · have := val_cmp hB (na.length - 1 - i) la lb he (fun j hj => hP j (by first | (with_reducible assumption) | (with_reducible exact Nat.le_trans (by assumption) (by decide)) | (with_reducible exact b0 (by assumption)) | (with_reducible exact b1 (by assumption)) | (with_reducible exact b2 (by assumption)) | (with_reducible exact Int.le_of_lt (by assumption)) | (with_reducible exact Nat.le_of_lt (by assumption)) | (with_reducible exact Int.natCast_nonneg _) | (with_reducible exact Int.le_of_lt (Int.pow_pos (by decide))) | (with_reducible exact Int.pow_pos (by decide)) | (with_reducible exact Nat.lt_of_lt_of_le (by decide) (by assumption)) | (with_reducible exact Int.ne_of_gt (by assumption)) | lia)) (of_decide_eq_true h)
          rw [cmpI_lt (by first | (with_reducible assumption) | (with_reducible exact Nat.le_trans (by assumption) (by decide)) | (with_reducible exact b0 (by assumption)) | (with_reducible exact b1 (by assumption)) | (with_reducible exact b2 (by assumption)) | (with_reducible exact Int.le_of_lt (by assumption)) | (with_reducible exact Nat.le_of_lt (by assumption)) | (with_reducible exact Int.natCast_nonneg _) | (with_reducible exact Int.le_of_lt (Int.pow_pos (by decide))) | (with_reducible exact Int.pow_pos (by decide)) | (with_reducible exact Nat.lt_of_lt_of_le (by decide) (by assumption)) | (with_reducible exact Int.ne_of_gt (by assumption)) | lia)]
          exact J_neg J_int
        · have := val_cmp hB (na.length - 1 - i) lb la he.symm (fun j hj => (hP j (by first | (with_reducible assumption) | (with_reducible exact Nat.le_trans (by assumption) (by decide)) | (with_reducible exact b0 (by assumption)) | (with_reducible exact b1 (by assumption)) | (with_reducible exact b2 (by assumption)) | (with_reducible exact Int.le_of_lt (by assumption)) | (with_reducible exact Nat.le_of_lt (by assumption)) | (with_reducible exact Int.natCast_nonneg _) | (with_reducible exact Int.le_of_lt (Int.pow_pos (by decide))) | (with_reducible exact Int.pow_pos (by decide)) | (with_reducible exact Nat.lt_of_lt_of_le (by decide) (by assumption)) | (with_reducible exact Int.ne_of_gt (by assumption)) | lia)).symm) (by have := of_decide_eq_false h; lia)
          rw [cmpI_gt (by first | (with_reducible assumption) | (with_reducible exact Nat.le_trans (by assumption) (by decide)) | (with_reducible exact b0 (by assumption)) | (with_reducible exact b1 (by assumption)) | (with_reducible exact b2 (by assumption)) | (with_reducible exact Int.le_of_lt (by assumption)) | (with_reducible exact Nat.le_of_lt (by assumption)) | (with_reducible exact Int.natCast_nonneg _) | (with_reducible exact Int.le_of_lt (Int.pow_pos (by decide))) | (with_reducible exact Int.pow_pos (by decide)) | (with_reducible exact Nat.lt_of_lt_of_le (by decide) (by assumption)) | (with_reducible exact Int.ne_of_gt (by assumption)) | lia)]
          exact J_int
    · have := val_same (B := B₀) he fun j => hP j (by first | (with_reducible assumption) | (with_reducible exact Nat.le_trans (by assumption) (by decide)) | (with_reducible exact b0 (by assumption)) | (with_reducible exact b1 (by assumption)) | (with_reducible exact b2 (by assumption)) | (with_reducible exact Int.le_of_lt (by assumption)) | (with_reducible exact Nat.le_of_lt (by assumption)) | (with_reducible exact Int.natCast_nonneg _) | (with_reducible exact Int.le_of_lt (Int.pow_pos (by decide))) | (with_reducible exact Int.pow_pos (by decide)) | (with_reducible exact Nat.lt_of_lt_of_le (by decide) (by assumption)) | (with_reducible exact Int.ne_of_gt (by assumption)) | lia)
      have e : X = Y := by lia
      rw [e, cmpI_eq]
      exact B_ret J_int

theorem fnc_normal {w : World} {mean : ExcName → Option Value} {mg mb : Str → Option Value} {ns : List Int} (hlen : ns.length ≤ 1000) : Fnc w mean mg mb 1 "normal" [.l ns] (.l (strip ns)) := by
  refine' fnc_intro ["a"] ?hf ?hbind ?hloc ?hnd ?hlen ?hcell ?c2 ?c3 ?c4 ?_
  ((case hf => exact rfl); (case hcell => decide); (case hloc => decide); (case hnd => decide); (case hlen => exact rfl); (case c2 => exact rfl); (case c3 => exact rfl); (case c4 => exact rfl))
  (case hbind => (intro s _ _ _ vals hl; obtain ⟨v1, hv⟩ := List.length_eq_one_iff.mp hl; subst hv; exact BindsTo.of_eq rfl))
  intro c _ _ o hcl eo
  have hf3 : ∀ q, c.cl.lookup q = none := fun q => by rw [hcl]; rfl
  refine B_asg eo (J_len eo o free_len (J_name eo rfl rfl (hf3 _)) (by first | (with_reducible assumption) | (with_reducible exact Nat.le_trans (by assumption) (by decide)) | (with_reducible exact b0 (by assumption)) | (with_reducible exact b1 (by assumption)) | (with_reducible exact b2 (by assumption)) | (with_reducible exact Int.le_of_lt (by assumption)) | (with_reducible exact Nat.le_of_lt (by assumption)) | (with_reducible exact Int.natCast_nonneg _) | (with_reducible exact Int.le_of_lt (Int.pow_pos (by decide))) | (with_reducible exact Int.pow_pos (by decide)) | (with_reducible exact Nat.lt_of_lt_of_le (by decide) (by assumption)) | (with_reducible exact Int.ne_of_gt (by assumption)) | lia | omega)) (fun _ => rfl) (fun _ _ _ e => nomatch e) (hf3 _) ?_
  refine B_while (σ := Nat) (fun k => k ≤ ns.length ∧ ∀ j, k ≤ j → j < ns.length → ns.getD j 0 = 0) (fun k => ⟨true, [("a", .l ns), ("end", .i k)], none⟩) (fun k => decide (0 < k ∧ ns.getD (k - 1) 0 = 0)) (fun k => k - 1) (fun k => k) ns.length ⟨Nat.le_refl _, fun j h1 h2 => absurd h2 (Nat.not_lt.mpr h1)⟩ (fun h K => K.sub ⟨rfl, rfl, trivial⟩) (fun _ => rfl) (fun k hk => ?_) (fun k hk hb => ?_) (fun k hk hb => ?_)
  · refine JT_and (a := decide (0 < (k : Int))) (JT_cmp (J_name eo rfl rfl (hf3 _)) J_int op_gt) (fun h => ?_) (fun h => ?_)
    · have h0 := of_decide_eq_true h
      refine JT_cast (JT_cmp (J_at (i := k - 1) (J_name eo rfl rfl (hf3 _)) (J_cast (J_bin (J_name eo rfl rfl (hf3 _)) J_int op_sub) (by congr 1; (first | lia | omega))) (by first | (with_reducible assumption) | (with_reducible exact Nat.le_trans (by assumption) (by decide)) | (with_reducible exact b0 (by assumption)) | (with_reducible exact b1 (by assumption)) | (with_reducible exact b2 (by assumption)) | (with_reducible exact Int.le_of_lt (by assumption)) | (with_reducible exact Nat.le_of_lt (by assumption)) | (with_reducible exact Int.natCast_nonneg _) | (with_reducible exact Int.le_of_lt (Int.pow_pos (by decide))) | (with_reducible exact Int.pow_pos (by decide)) | (with_reducible exact Nat.lt_of_lt_of_le (by decide) (by assumption)) | (with_reducible exact Int.ne_of_gt (by assumption)) | lia | omega) (by first | (with_reducible assumption) | (with_reducible exact Nat.le_trans (by assumption) (by decide)) | (with_reducible exact b0 (by assumption)) | (with_reducible exact b1 (by assumption)) | (with_reducible exact b2 (by assumption)) | (with_reducible exact Int.le_of_lt (by assumption)) | (with_reducible exact Nat.le_of_lt (by assumption)) | (with_reducible exact Int.natCast_nonneg _) | (with_reducible exact Int.le_of_lt (Int.pow_pos (by decide))) | (with_reducible exact Int.pow_pos (by decide)) | (with_reducible exact Nat.lt_of_lt_of_le (by decide) (by assumption)) | (with_reducible exact Int.ne_of_gt (by assumption)) | lia | omega)) J_int op_eq) ?_
      rw [Bool.decide_and, decide_eq_true (show 0 < k by (first | lia | omega)), Bool.true_and]
    · have h0 := of_decide_eq_false h
      exact decide_eq_false (by first | (with_reducible assumption) | (with_reducible exact Nat.le_trans (by assumption) (by decide)) | (with_reducible exact b0 (by assumption)) | (with_reducible exact b1 (by assumption)) | (with_reducible exact b2 (by assumption)) | (with_reducible exact Int.le_of_lt (by assumption)) | (with_reducible exact Nat.le_of_lt (by assumption)) | (with_reducible exact Int.natCast_nonneg _) | (with_reducible exact Int.le_of_lt (Int.pow_pos (by decide))) | (with_reducible exact Int.pow_pos (by decide)) | (with_reducible exact Nat.lt_of_lt_of_le (by decide) (by assumption)) | (with_reducible exact Int.ne_of_gt (by assumption)) | lia | omega)
  · have hb := of_decide_eq_true hb
    refine ⟨B_aug eo rfl J_int iop_sub (fun _ => rfl) (fun _ _ _ e => nomatch e) (hf3 _) ?_, ⟨by (first | lia | omega), fun j h1 h2 => ?_⟩, by (first | lia | omega)⟩
    · rw [show (k : Int) - 1 = ((k - 1 : Nat) : Int) by (first | lia | omega)]
      exact B_end ⟨rfl, rfl, trivial⟩
    · by_cases hj : j = k - 1
      · rw [hj]; exact hb.2
      · exact hk.2 j (by first | (with_reducible assumption) | (with_reducible exact Nat.le_trans (by assumption) (by decide)) | (with_reducible exact b0 (by assumption)) | (with_reducible exact b1 (by assumption)) | (with_reducible exact b2 (by assumption)) | (with_reducible exact Int.le_of_lt (by assumption)) | (with_reducible exact Nat.le_of_lt (by assumption)) | (with_reducible exact Int.natCast_nonneg _) | (with_reducible exact Int.le_of_lt (Int.pow_pos (by decide))) | (with_reducible exact Int.pow_pos (by decide)) | (with_reducible exact Nat.lt_of_lt_of_le (by decide) (by assumption)) | (with_reducible exact Int.ne_of_gt (by assumption)) | lia | omega) h2
  · have hb := of_decide_eq_false hb
    rw [← strip_take hk.1 hk.2 (by first | (with_reducible assumption) | (with_reducible exact Nat.le_trans (by assumption) (by decide)) | (with_reducible exact b0 (by assumption)) | (with_reducible exact b1 (by assumption)) | (with_reducible exact b2 (by assumption)) | (with_reducible exact Int.le_of_lt (by assumption)) | (with_reducible exact Nat.le_of_lt (by assumption)) | (with_reducible exact Int.natCast_nonneg _) | (with_reducible exact Int.le_of_lt (Int.pow_pos (by decide))) | (with_reducible exact Int.pow_pos (by decide)) | (with_reducible exact Nat.lt_of_lt_of_le (by decide) (by assumption)) | (with_reducible exact Int.ne_of_gt (by assumption)) | lia | omega)]
    exact B_ret (J_cast (JN.j (JN_upto (J_name eo rfl rfl (hf3 _)) (J_name eo rfl rfl (hf3 _)) (by first | (with_reducible assumption) | (with_reducible exact Nat.le_trans (by assumption) (by decide)) | (with_reducible exact b0 (by assumption)) | (with_reducible exact b1 (by assumption)) | (with_reducible exact b2 (by assumption)) | (with_reducible exact Int.le_of_lt (by assumption)) | (with_reducible exact Nat.le_of_lt (by assumption)) | (with_reducible exact Int.natCast_nonneg _) | (with_reducible exact Int.le_of_lt (Int.pow_pos (by decide))) | (with_reducible exact Int.pow_pos (by decide)) | (with_reducible exact Nat.lt_of_lt_of_le (by decide) (by assumption)) | (with_reducible exact Int.ne_of_gt (by assumption)) | lia | omega) hlen)) (by rw [Int.toNat_natCast]))

theorem fnc_sub {w : World} {mean : ExcName → Option Value} {mg mb : Str → Option Value} {n : Nat} (hn : 0 < n) (hn9 : n ≤ 1000) {X Y : Int} (hY : 0 ≤ Y) (hXY : Y ≤ X) (hlX : (limbs (2 ^ n) X).length ≤ 500) :
    Fnc w mean mg mb 2 "sub" [.l (limbs (2 ^ n) X), .l (limbs (2 ^ n) Y), .i n] (.l (limbs (2 ^ n) (X - Y))) := by
  have hB := bs_gt hn
  have hX : 0 ≤ X := by (first | lia | omega)
  have hlY := limbs_len_mono hB hX hXY
  have hend := sub_end hB hY hXY
  have hfl : ∀ i, (subS (2 ^ n) (limbs (2 ^ n) X) (limbs (2 ^ n) Y) i).2.length = i := fun i => (subS_inv hB (lim_limbs hB X) (lim_limbs hB Y) i).1
  have hcmp : ∀ {w : World} {mean : ExcName → Option Value} {mg mb : Str → Option Value}, Fnc w mean mg mb 1 "compare" [.l (limbs (2 ^ n) X), .l (limbs (2 ^ n) Y)] (.i (cmpI X Y)) := fnc_compare hB hX hY hlX (by first | (with_reducible assumption) | (with_reducible exact Nat.le_trans (by assumption) (by decide)) | (with_reducible exact b0 (by assumption)) | (with_reducible exact b1 (by assumption)) | (with_reducible exact b2 (by assumption)) | (with_reducible exact Int.le_of_lt (by assumption)) | (with_reducible exact Nat.le_of_lt (by assumption)) | (with_reducible exact Int.natCast_nonneg _) | (with_reducible exact Int.le_of_lt (Int.pow_pos (by decide))) | (with_reducible exact Int.pow_pos (by decide)) | (with_reducible exact Nat.lt_of_lt_of_le (by decide) (by assumption)) | (with_reducible exact Int.ne_of_gt (by assumption)) | lia | omega)
  rw [← hend]
  clear hend
  generalize limbs (2 ^ n) X = na at *
  generalize limbs (2 ^ n) Y = nb at *
  refine' fnc_intro ["a", "b", "w"] ?hf ?hbind ?hloc ?hnd ?hlen ?hcell ?c2 ?c3 ?c4 ?_
  ((case hf => exact rfl); (case hcell => decide); (case hloc => decide); (case hnd => decide); (case hlen => exact rfl); (case c2 => exact rfl); (case c3 => exact rfl); (case c4 => exact rfl))
  (case hbind => (intro s _ _ _ vals hl; obtain ⟨v1, v2, v3, hv⟩ := len3 hl; subst hv; exact BindsTo.of_eq rfl))
  intro c _ _ o hcl eo
  have hf3 : ∀ q, c.cl.lookup q = none := fun q => by rw [hcl]; rfl
  refine B_ifret (JT_cmp (J_call eo o st_compare (Js_cons (J_name eo rfl rfl (hf3 _)) (Js_cons (J_name eo rfl rfl (hf3 _)) Js_nil)) hcmp (by decide)) J_int op_lt) (fun hb => ?_) (fun _ => ?_)
  · exfalso
    have h1 := of_decide_eq_true hb
    unfold cmpI at h1
    rw [if_neg (by first | (with_reducible assumption) | (with_reducible exact Nat.le_trans (by assumption) (by decide)) | (with_reducible exact b0 (by assumption)) | (with_reducible exact b1 (by assumption)) | (with_reducible exact b2 (by assumption)) | (with_reducible exact Int.le_of_lt (by assumption)) | (with_reducible exact Nat.le_of_lt (by assumption)) | (with_reducible exact Int.natCast_nonneg _) | (with_reducible exact Int.le_of_lt (Int.pow_pos (by decide))) | (with_reducible exact Int.pow_pos (by decide)) | (with_reducible exact Nat.lt_of_lt_of_le (by decide) (by assumption)) | (with_reducible exact Int.ne_of_gt (by assumption)) | lia | omega)] at h1
    split at h1 <;> (first | lia | omega)
  refine B_found3 eo hcl (JN_list (ns := []) Js_nil (by decide)) J_int (J_bin J_int (J_name eo rfl rfl (hf3 _)) (one_shl hn9)) ⟨rfl, rfl⟩ rfl (fun a => ?_)
  have hnx : ∀ (fd : List Int) y a' ns, some ((Str.ofString "found"), a, fd) = some (y, a', ns) → y ≠ Str.ofString "at" ∧ y ≠ Str.ofString "limb" ∧ y ≠ Str.ofString "borrow" := fun fd y a' ns e => by cases e; decide
  refine B_for na.length (fun i => .i i) (fun i => ⟨true, [("a", .l na), ("b", .l nb), ("w", .i n), ("base", .i (2 ^ n)), ("borrow", .i (subS (2 ^ n) na nb i).1)], some ("found", a, (subS (2 ^ n) na nb i).2)⟩) (fun _ => True) trivial eo
    (It_range1 eo o free_range (J_len eo o free_len (J_name eo rfl rfl (hf3 _)) (by first | (with_reducible assumption) | (with_reducible exact Nat.le_trans (by assumption) (by decide)) | (with_reducible exact b0 (by assumption)) | (with_reducible exact b1 (by assumption)) | (with_reducible exact b2 (by assumption)) | (with_reducible exact Int.le_of_lt (by assumption)) | (with_reducible exact Nat.le_of_lt (by assumption)) | (with_reducible exact Int.natCast_nonneg _) | (with_reducible exact Int.le_of_lt (Int.pow_pos (by decide))) | (with_reducible exact Int.pow_pos (by decide)) | (with_reducible exact Nat.lt_of_lt_of_le (by decide) (by assumption)) | (with_reducible exact Int.ne_of_gt (by assumption)) | lia | omega)) (by first | (with_reducible assumption) | (with_reducible exact Nat.le_trans (by assumption) (by decide)) | (with_reducible exact b0 (by assumption)) | (with_reducible exact b1 (by assumption)) | (with_reducible exact b2 (by assumption)) | (with_reducible exact Int.le_of_lt (by assumption)) | (with_reducible exact Nat.le_of_lt (by assumption)) | (with_reducible exact Int.natCast_nonneg _) | (with_reducible exact Int.le_of_lt (Int.pow_pos (by decide))) | (with_reducible exact Int.pow_pos (by decide)) | (with_reducible exact Nat.lt_of_lt_of_le (by decide) (by assumption)) | (with_reducible exact Int.ne_of_gt (by assumption)) | lia | omega) (by first | (with_reducible assumption) | (with_reducible exact Nat.le_trans (by assumption) (by decide)) | (with_reducible exact b0 (by assumption)) | (with_reducible exact b1 (by assumption)) | (with_reducible exact b2 (by assumption)) | (with_reducible exact Int.le_of_lt (by assumption)) | (with_reducible exact Nat.le_of_lt (by assumption)) | (with_reducible exact Int.natCast_nonneg _) | (with_reducible exact Int.le_of_lt (Int.pow_pos (by decide))) | (with_reducible exact Int.pow_pos (by decide)) | (with_reducible exact Nat.lt_of_lt_of_le (by decide) (by assumption)) | (with_reducible exact Int.ne_of_gt (by assumption)) | lia | omega) (by first | (with_reducible assumption) | (with_reducible exact Nat.le_trans (by assumption) (by decide)) | (with_reducible exact b0 (by assumption)) | (with_reducible exact b1 (by assumption)) | (with_reducible exact b2 (by assumption)) | (with_reducible exact Int.le_of_lt (by assumption)) | (with_reducible exact Nat.le_of_lt (by assumption)) | (with_reducible exact Int.natCast_nonneg _) | (with_reducible exact Int.le_of_lt (Int.pow_pos (by decide))) | (with_reducible exact Int.pow_pos (by decide)) | (with_reducible exact Nat.lt_of_lt_of_le (by decide) (by assumption)) | (with_reducible exact Int.ne_of_gt (by assumption)) | lia | omega)) (fun h K => K.sub ⟨rfl, rfl, rfl, rfl, rfl, trivial⟩) (fun _ => rfl) (fun i y a' ns e => (hnx _ y a' ns e).1) (fun _ => rfl) (hf3 _) (fun i hi _ => .inl ⟨trivial, ?_⟩) (fun _ => ?_)
  · refine B_asg (sv := .i (na.getD i 0 - (subS (2 ^ n) na nb i).1 - nb.getD i 0)) eo (J_bin (J_bin (J_at (J_name eo rfl rfl (hf3 _)) (J_name eo rfl rfl (hf3 _)) hi (by first | (with_reducible assumption) | (with_reducible exact Nat.le_trans (by assumption) (by decide)) | (with_reducible exact b0 (by assumption)) | (with_reducible exact b1 (by assumption)) | (with_reducible exact b2 (by assumption)) | (with_reducible exact Int.le_of_lt (by assumption)) | (with_reducible exact Nat.le_of_lt (by assumption)) | (with_reducible exact Int.natCast_nonneg _) | (with_reducible exact Int.le_of_lt (Int.pow_pos (by decide))) | (with_reducible exact Int.pow_pos (by decide)) | (with_reducible exact Nat.lt_of_lt_of_le (by decide) (by assumption)) | (with_reducible exact Int.ne_of_gt (by assumption)) | lia | omega)) (J_name eo rfl rfl (hf3 _)) op_sub) (J_if (JT_cmp (J_name eo rfl rfl (hf3 _)) (J_len eo o free_len (J_name eo rfl rfl (hf3 _)) (by first | (with_reducible assumption) | (with_reducible exact Nat.le_trans (by assumption) (by decide)) | (with_reducible exact b0 (by assumption)) | (with_reducible exact b1 (by assumption)) | (with_reducible exact b2 (by assumption)) | (with_reducible exact Int.le_of_lt (by assumption)) | (with_reducible exact Nat.le_of_lt (by assumption)) | (with_reducible exact Int.natCast_nonneg _) | (with_reducible exact Int.le_of_lt (Int.pow_pos (by decide))) | (with_reducible exact Int.pow_pos (by decide)) | (with_reducible exact Nat.lt_of_lt_of_le (by decide) (by assumption)) | (with_reducible exact Int.ne_of_gt (by assumption)) | lia | omega)) op_lt) (fun h => J_at (J_name eo rfl rfl (hf3 _)) (J_name eo rfl rfl (hf3 _)) (by have := of_decide_eq_true h; (first | lia | omega)) (by first | (with_reducible assumption) | (with_reducible exact Nat.le_trans (by assumption) (by decide)) | (with_reducible exact b0 (by assumption)) | (with_reducible exact b1 (by assumption)) | (with_reducible exact b2 (by assumption)) | (with_reducible exact Int.le_of_lt (by assumption)) | (with_reducible exact Nat.le_of_lt (by assumption)) | (with_reducible exact Int.natCast_nonneg _) | (with_reducible exact Int.le_of_lt (Int.pow_pos (by decide))) | (with_reducible exact Int.pow_pos (by decide)) | (with_reducible exact Nat.lt_of_lt_of_le (by decide) (by assumption)) | (with_reducible exact Int.ne_of_gt (by assumption)) | lia | omega)) (fun h => ?_)) op_sub) (fun _ => rfl) (fun y a' ns e => (hnx _ y a' ns e).2.1) (hf3 _) ?_
    · rw [show nb.getD i 0 = 0 by have := of_decide_eq_false h; simp [List.getD_eq_getElem?_getD, show nb.length ≤ i by (first | lia | omega)]]
      exact J_int
    refine B_asg (sv := .i (subS (2 ^ n) na nb (i + 1)).1) eo (J_if (JT_cmp (J_name eo rfl rfl (hf3 _)) J_int op_lt) (fun h => ?_) (fun h => ?_)) (fun _ => rfl) (fun y a' ns e => (hnx _ y a' ns e).2.2) (hf3 _) ?_
    · rw [subS]; dsimp only; rw [if_pos (of_decide_eq_true h)]; exact J_int
    · rw [subS]; dsimp only; rw [if_neg (of_decide_eq_false h)]; exact J_int
    refine B_append (i := if na.getD i 0 - (subS (2 ^ n) na nb i).1 - nb.getD i 0 < 0 then na.getD i 0 - (subS (2 ^ n) na nb i).1 - nb.getD i 0 + 2 ^ n else na.getD i 0 - (subS (2 ^ n) na nb i).1 - nb.getD i 0) eo rfl (J_if (JT_cmp (J_name eo rfl rfl (hf3 _)) J_int op_lt) (fun h => ?_) (fun h => ?_)) (by rw [hfl]; (first | lia | omega)) ?_
    · rw [if_pos (of_decide_eq_true h)]; exact J_bin (J_name eo rfl rfl (hf3 _)) (J_name eo rfl rfl (hf3 _)) op_add
    · rw [if_neg (of_decide_eq_false h)]; exact (J_name eo rfl rfl (hf3 _))
    exact B_end ⟨rfl, rfl, rfl, rfl, rfl, trivial⟩
  · exact B_ret (J_call eo o st_normal (Js_cons (J_found eo rfl) Js_nil) (fnc_normal (by rw [hfl]; (first | lia | omega))) (by decide))

theorem fnc_shift {w : World} {mean : ExcName → Option Value} {mg mb : Str → Option Value} {n : Nat} (hn : 0 < n) (hn9 : n ≤ 1000) {N : Nat} (hN : N ≤ 500) :
    Fnc w mean mg mb 1 "shift_left" [.l [1], .i N, .i n] (.l (limbs (2 ^ n) (2 ^ N))) := by
  have hB := bs_gt hn
  have hend := limbs_two hn N
  have hq : N / n ≤ 500 := Nat.le_trans (Nat.div_le_self _ _) hN
  have hr : N % n ≤ 1000 := by have := Nat.mod_lt N hn; (first | lia | omega)
  have hlow := pow_lt_pow (Nat.mod_lt N hn)
  have hpos := Int.pow_pos (n := 2) (m := N % n) (by decide)
  rw [hend]
  clear hend
  obtain ⟨q, hqd⟩ : ∃ q, N / n = q := ⟨_, rfl⟩
  obtain ⟨r, hrd⟩ : ∃ r, N % n = r := ⟨_, rfl⟩
  rw [hqd] at hq
  rw [hrd] at hr hlow hpos
  rw [hqd, hrd]
  refine' fnc_intro ["a", "n", "w"] ?hf ?hbind ?hloc ?hnd ?hlen ?hcell ?c2 ?c3 ?c4 ?_
  ((case hf => exact rfl); (case hcell => decide); (case hloc => decide); (case hnd => decide); (case hlen => exact rfl); (case c2 => exact rfl); (case c3 => exact rfl); (case c4 => exact rfl))
  (case hbind => (intro s _ _ _ vals hl; obtain ⟨v1, v2, v3, hv⟩ := len3 hl; subst hv; exact BindsTo.of_eq rfl))
  intro c _ _ o hcl eo
  have hf3 : ∀ q, c.cl.lookup q = none := fun q => by rw [hcl]; rfl
  refine B_ifret (JT_cmp (J_len eo o free_len (J_name eo rfl rfl (hf3 _)) (by decide)) J_int op_eq) (fun hb => absurd (of_decide_eq_true hb) (by decide)) (fun _ => ?_)
  refine B_asg2 eo (JS_of (J_cast (J_bin (J_name eo rfl rfl (hf3 _)) (J_name eo rfl rfl (hf3 _)) (op_divN hn (by first | (with_reducible assumption) | (with_reducible exact Nat.le_trans (by assumption) (by decide)) | (with_reducible exact b0 (by assumption)) | (with_reducible exact b1 (by assumption)) | (with_reducible exact b2 (by assumption)) | (with_reducible exact Int.le_of_lt (by assumption)) | (with_reducible exact Nat.le_of_lt (by assumption)) | (with_reducible exact Int.natCast_nonneg _) | (with_reducible exact Int.le_of_lt (Int.pow_pos (by decide))) | (with_reducible exact Int.pow_pos (by decide)) | (with_reducible exact Nat.lt_of_lt_of_le (by decide) (by assumption)) | (with_reducible exact Int.ne_of_gt (by assumption)) | lia | omega))) (by rw [hqd])) (fun _ => rfl)) (JS_of (J_cast (J_bin (J_name eo rfl rfl (hf3 _)) (J_name eo rfl rfl (hf3 _)) (op_modN hn)) (by rw [hrd])) (fun _ => rfl)) (fun _ _ _ e => nomatch e) (hf3 _) (hf3 _) ?_
  refine B_found3 eo hcl (JN_mul (JN_list (ns := [0]) (Js_cons J_int Js_nil) (by decide)) (J_name eo rfl rfl (hf3 _)) (by first | (with_reducible assumption) | (with_reducible exact Nat.le_trans (by assumption) (by decide)) | (with_reducible exact b0 (by assumption)) | (with_reducible exact b1 (by assumption)) | (with_reducible exact b2 (by assumption)) | (with_reducible exact Int.le_of_lt (by assumption)) | (with_reducible exact Nat.le_of_lt (by assumption)) | (with_reducible exact Int.natCast_nonneg _) | (with_reducible exact Int.le_of_lt (Int.pow_pos (by decide))) | (with_reducible exact Int.pow_pos (by decide)) | (with_reducible exact Nat.lt_of_lt_of_le (by decide) (by assumption)) | (with_reducible exact Int.ne_of_gt (by assumption)) | lia | omega) (by first | (with_reducible assumption) | (with_reducible exact Nat.le_trans (by assumption) (by decide)) | (with_reducible exact b0 (by assumption)) | (with_reducible exact b1 (by assumption)) | (with_reducible exact b2 (by assumption)) | (with_reducible exact Int.le_of_lt (by assumption)) | (with_reducible exact Nat.le_of_lt (by assumption)) | (with_reducible exact Int.natCast_nonneg _) | (with_reducible exact Int.le_of_lt (Int.pow_pos (by decide))) | (with_reducible exact Int.pow_pos (by decide)) | (with_reducible exact Nat.lt_of_lt_of_le (by decide) (by assumption)) | (with_reducible exact Int.ne_of_gt (by assumption)) | lia | omega)) J_int (J_bin (J_bin J_int (J_name eo rfl rfl (hf3 _)) (one_shl hn9)) J_int op_sub) ⟨rfl, rfl⟩ rfl (fun a => ?_)
  rw [Int.toNat_natCast]
  have hnx : ∀ (fd : List Int) y a' ns, some ((Str.ofString "found"), a, fd) = some (y, a', ns) → y ≠ Str.ofString "one" ∧ y ≠ Str.ofString "carry" := fun fd y a' ns e => by cases e; decide
  refine B_for 1 (fun i => .i ([(1 : Int)].getD i 0)) (fun i => ⟨true, [("w", .i n), ("few", .i r), ("mask", .i (2 ^ n - 1)), ("carry", .i 0)], some ("found", a, List.replicate (q) 0 ++ List.replicate i (2 ^ (r)))⟩) (fun _ => True) trivial eo
    (It_list (ns := [1]) eo rfl rfl (hf3 _)) (fun h K => by rw [show List.replicate 0 ((2 : Int) ^ (r)) = [] from rfl, List.append_nil]; exact K.sub ⟨rfl, rfl, rfl, rfl, trivial⟩) (fun _ => rfl) (fun i y a' ns e => (hnx _ y a' ns e).1) (fun _ => rfl) (hf3 _) (fun i hi _ => .inl ⟨trivial, ?_⟩) (fun _ => ?_)
  · have hi0 : i = 0 := by (first | lia | omega)
    subst hi0
    refine B_aug (sv := .i (2 ^ (r))) eo rfl (J_bin (J_cast (y := .i 1) (J_name eo rfl rfl (hf3 _)) rfl) (J_name eo rfl rfl (hf3 _)) (one_shl hr)) ?_ (fun _ => rfl) (fun y a' ns e => (hnx _ y a' ns e).2) (hf3 _) ?_
    · have h : Op c (inplaceOp .BitOr) (.i 0) (.i (2 ^ (r))) (.i (Builtin.bitOr 0 (2 ^ (r)))) := iop_or
      rwa [bitOr_eq, bitAnd_zero, Int.zero_add, Int.sub_zero] at h
    refine B_append (i := 2 ^ (r)) eo rfl (J_cast (J_bin (J_name eo rfl rfl (hf3 _)) (J_name eo rfl rfl (hf3 _)) op_mask) (by rw [Int.emod_eq_of_lt (by first | (with_reducible assumption) | (with_reducible exact Nat.le_trans (by assumption) (by decide)) | (with_reducible exact b0 (by assumption)) | (with_reducible exact b1 (by assumption)) | (with_reducible exact b2 (by assumption)) | (with_reducible exact Int.le_of_lt (by assumption)) | (with_reducible exact Nat.le_of_lt (by assumption)) | (with_reducible exact Int.natCast_nonneg _) | (with_reducible exact Int.le_of_lt (Int.pow_pos (by decide))) | (with_reducible exact Int.pow_pos (by decide)) | (with_reducible exact Nat.lt_of_lt_of_le (by decide) (by assumption)) | (with_reducible exact Int.ne_of_gt (by assumption)) | lia | omega) hlow])) (by simp; (first | lia | omega)) ?_
    refine B_aug (sv := .i 0) eo rfl (J_name eo rfl rfl (hf3 _)) ?_ (fun _ => rfl) (fun y a' ns e => (hnx _ y a' ns e).2) (hf3 _) ?_
    · have h : Op c (inplaceOp .RShift) (.i (2 ^ (r))) (.i n) (.i (2 ^ (r) / 2 ^ n)) := iop_shrN
      rwa [Int.ediv_eq_zero_of_lt (by first | (with_reducible assumption) | (with_reducible exact Nat.le_trans (by assumption) (by decide)) | (with_reducible exact b0 (by assumption)) | (with_reducible exact b1 (by assumption)) | (with_reducible exact b2 (by assumption)) | (with_reducible exact Int.le_of_lt (by assumption)) | (with_reducible exact Nat.le_of_lt (by assumption)) | (with_reducible exact Int.natCast_nonneg _) | (with_reducible exact Int.le_of_lt (Int.pow_pos (by decide))) | (with_reducible exact Int.pow_pos (by decide)) | (with_reducible exact Nat.lt_of_lt_of_le (by decide) (by assumption)) | (with_reducible exact Int.ne_of_gt (by assumption)) | lia | omega) hlow] at h
    rw [List.append_assoc]
    exact B_end ⟨rfl, rfl, rfl, rfl, trivial⟩
  · refine B_ifgo (k1 := ⟨true, [], some ("found", a, List.replicate (q) 0 ++ [2 ^ (r)])⟩) (JT_cmp (J_name eo rfl rfl (hf3 _)) J_int op_gt) (fun hb => absurd (of_decide_eq_true hb) (by decide)) (fun _ => B_end trivial) rfl (B_ret (J_found eo rfl))
theorem fnc_one_at {w : World} {mean : ExcName → Option Value} {mg mb : Str → Option Value} {n : Nat} (hn : 0 < n) (hn9 : n ≤ 1000) {N : Nat} (hN : N ≤ 500) :
    Fnc w mean mg mb 2 "one_at" [.i N, .i n] (.l (limbs (2 ^ n) (2 ^ N))) := by
  refine' fnc_intro ["n", "w"] ?hf ?hbind ?hloc ?hnd ?hlen ?hcell ?c2 ?c3 ?c4 ?_
  ((case hf => exact rfl); (case hcell => decide); (case hloc => decide); (case hnd => decide); (case hlen => exact rfl); (case c2 => exact rfl); (case c3 => exact rfl); (case c4 => exact rfl))
  (case hbind => (intro s _ _ _ vals hl; obtain ⟨v1, v2, hv⟩ := len2 hl; subst hv; exact BindsTo.of_eq rfl))
  intro c _ _ o hcl eo
  have hf3 : ∀ q, c.cl.lookup q = none := fun q => by rw [hcl]; rfl
  exact B_ret (J_call eo o st_shift_left (Js_cons (JN.j (JN_list (ns := [1]) (Js_cons J_int Js_nil) (by decide))) (Js_cons (J_name eo rfl rfl (hf3 _)) (Js_cons (J_name eo rfl rfl (hf3 _)) Js_nil))) (fnc_shift hn hn9 hN) (by decide))
theorem fnc_bit {w : World} {mean : ExcName → Option Value} {mg mb : Str → Option Value} {n : Nat} (hn : 0 < n) (hn9 : n ≤ 1000) {X : Int} (hX : 0 ≤ X) (hlX : (limbs (2 ^ n) X).length ≤ 500) {N : Nat} :
    Fnc w mean mg mb 1 "bit" [.l (limbs (2 ^ n) X), .i N, .i n] (.i (X / 2 ^ N % 2)) := by
  have hB := bs_gt hn
  refine' fnc_intro ["a", "n", "w"] ?hf ?hbind ?hloc ?hnd ?hlen ?hcell ?c2 ?c3 ?c4 ?_
  ((case hf => exact rfl); (case hcell => decide); (case hloc => decide); (case hnd => decide); (case hlen => exact rfl); (case c2 => exact rfl); (case c3 => exact rfl); (case c4 => exact rfl))
  (case hbind => (intro s _ _ _ vals hl; obtain ⟨v1, v2, v3, hv⟩ := len3 hl; subst hv; exact BindsTo.of_eq rfl))
  intro c _ _ o hcl eo
  have hf3 : ∀ q, c.cl.lookup q = none := fun q => by rw [hcl]; rfl
  refine B_ret (J_if (JT_cmp (J_bin (J_name eo rfl rfl (hf3 _)) (J_name eo rfl rfl (hf3 _)) (op_divN hn (by first | (with_reducible assumption) | (with_reducible exact Nat.le_trans (by assumption) (by decide)) | (with_reducible exact b0 (by assumption)) | (with_reducible exact b1 (by assumption)) | (with_reducible exact b2 (by assumption)) | (with_reducible exact Int.le_of_lt (by assumption)) | (with_reducible exact Nat.le_of_lt (by assumption)) | (with_reducible exact Int.natCast_nonneg _) | (with_reducible exact Int.le_of_lt (Int.pow_pos (by decide))) | (with_reducible exact Int.pow_pos (by decide)) | (with_reducible exact Nat.lt_of_lt_of_le (by decide) (by assumption)) | (with_reducible exact Int.ne_of_gt (by assumption)) | lia | omega))) (J_len eo o free_len (J_name eo rfl rfl (hf3 _)) (by first | (with_reducible assumption) | (with_reducible exact Nat.le_trans (by assumption) (by decide)) | (with_reducible exact b0 (by assumption)) | (with_reducible exact b1 (by assumption)) | (with_reducible exact b2 (by assumption)) | (with_reducible exact Int.le_of_lt (by assumption)) | (with_reducible exact Nat.le_of_lt (by assumption)) | (with_reducible exact Int.natCast_nonneg _) | (with_reducible exact Int.le_of_lt (Int.pow_pos (by decide))) | (with_reducible exact Int.pow_pos (by decide)) | (with_reducible exact Nat.lt_of_lt_of_le (by decide) (by assumption)) | (with_reducible exact Int.ne_of_gt (by assumption)) | lia | omega)) op_lt) (fun h => ?_) (fun h => ?_))
  · have hi : N / n < (limbs (2 ^ n) X).length := by have := of_decide_eq_true h; (first | lia | omega)
    refine J_cast (J_bin (J_bin (J_at (J_name eo rfl rfl (hf3 _)) (J_bin (J_name eo rfl rfl (hf3 _)) (J_name eo rfl rfl (hf3 _)) (op_divN hn (by first | (with_reducible assumption) | (with_reducible exact Nat.le_trans (by assumption) (by decide)) | (with_reducible exact b0 (by assumption)) | (with_reducible exact b1 (by assumption)) | (with_reducible exact b2 (by assumption)) | (with_reducible exact Int.le_of_lt (by assumption)) | (with_reducible exact Nat.le_of_lt (by assumption)) | (with_reducible exact Int.natCast_nonneg _) | (with_reducible exact Int.le_of_lt (Int.pow_pos (by decide))) | (with_reducible exact Int.pow_pos (by decide)) | (with_reducible exact Nat.lt_of_lt_of_le (by decide) (by assumption)) | (with_reducible exact Int.ne_of_gt (by assumption)) | lia | omega))) hi (by first | (with_reducible assumption) | (with_reducible exact Nat.le_trans (by assumption) (by decide)) | (with_reducible exact b0 (by assumption)) | (with_reducible exact b1 (by assumption)) | (with_reducible exact b2 (by assumption)) | (with_reducible exact Int.le_of_lt (by assumption)) | (with_reducible exact Nat.le_of_lt (by assumption)) | (with_reducible exact Int.natCast_nonneg _) | (with_reducible exact Int.le_of_lt (Int.pow_pos (by decide))) | (with_reducible exact Int.pow_pos (by decide)) | (with_reducible exact Nat.lt_of_lt_of_le (by decide) (by assumption)) | (with_reducible exact Int.ne_of_gt (by assumption)) | lia | omega)) (J_bin (J_name eo rfl rfl (hf3 _)) (J_name eo rfl rfl (hf3 _)) (op_modN hn)) op_shrN) J_int op_and) ?_
    rw [bitAnd_m1, limbs_getD hB hX _ hi, bit_in hn]
  · rw [bit_out hn hX (by have := of_decide_eq_false h; (first | lia | omega))]
    exact J_int

noncomputable def sg (n : Nat) (X : Int) : SV := .g (decide (X < 0)) (limbs (2 ^ n) X.natAbs)
theorem sg_pos {n : Nat} {X : Int} (h : 0 ≤ X) : sg n X = .g false (limbs (2 ^ n) X) := by
  unfold sg
  rw [decide_eq_false (by first | (with_reducible assumption) | (with_reducible exact Nat.le_trans (by assumption) (by decide)) | (with_reducible exact b0 (by assumption)) | (with_reducible exact b1 (by assumption)) | (with_reducible exact b2 (by assumption)) | (with_reducible exact Int.le_of_lt (by assumption)) | (with_reducible exact Nat.le_of_lt (by assumption)) | (with_reducible exact Int.natCast_nonneg _) | (with_reducible exact Int.le_of_lt (Int.pow_pos (by decide))) | (with_reducible exact Int.pow_pos (by decide)) | (with_reducible exact Nat.lt_of_lt_of_le (by decide) (by assumption)) | (with_reducible exact Int.ne_of_gt (by assumption)) | lia | omega), show (X.natAbs : Int) = X by (first | lia | omega)]
theorem sg_neg {n : Nat} {X : Int} (h : X < 0) : sg n X = .g true (limbs (2 ^ n) (-X)) := by
  unfold sg
  rw [decide_eq_true h, show (X.natAbs : Int) = -X by (first | lia | omega)]
theorem J_one {c : Cx} {env : Env} {k : Know} {B : Int} (hB : 1 < B) {i : Nat} {p pos : Pos} (hs : starEach [.Constant (.int 1) i p] env = (false, eval (.Constant (.int 1) i p) env) :: starEach [] env := by rfl) : J c env k (.List [.Constant (.int 1) i p] pos) (.l (limbs B 1)) := by
  rw [limbs_1 hB]
  exact JN.j (JN_list (ns := [1]) (Js_cons J_int Js_nil hs) (by decide))
section
variable {w : World} {mean : ExcName → Option Value} {mg mb : Str → Option Value} {n : Nat} (hn : 0 < n) (hn9 : n ≤ 1000) {X : Int} (hl : (limbs (2 ^ n) X.natAbs).length ≤ 400)
include hn hn9 hl
theorem fnc_s_not : Fnc w mean mg mb 3 "s_not" [sg n X, .i n] (sg n (-1 - X)) := by
  have hB := bs_gt hn
  have h1 : (limbs (2 ^ n) 1).length ≤ 500 := by rw [limbs_1 hB]; decide
  refine' fnc_intro ["x", "w"] ?hf ?hbind ?hloc ?hnd ?hlen ?hcell ?c2 ?c3 ?c4 ?_
  ((case hf => exact rfl); (case hcell => decide); (case hloc => decide); (case hnd => decide); (case hlen => exact rfl); (case c2 => exact rfl); (case c3 => exact rfl); (case c4 => exact rfl))
  (case hbind => (intro s _ _ _ vals hl; obtain ⟨v1, v2, hv⟩ := len2 hl; subst hv; exact BindsTo.of_eq rfl))
  intro c _ _ o hcl eo
  have hf3 : ∀ q, c.cl.lookup q = none := fun q => by rw [hcl]; rfl
  refine B_unst (B_unpack eo (J_name eo rfl rfl (hf3 _)) rfl rfl (hf3 _) (hf3 _) (B_ifret (JT_plain (J_name eo rfl rfl (hf3 _))) (fun hb => ?_) (fun hb => ?_)))
  · have hX := of_decide_eq_true hb
    rw [sg_pos (X := -1 - X) (by first | (with_reducible assumption) | (with_reducible exact Nat.le_trans (by assumption) (by decide)) | (with_reducible exact b0 (by assumption)) | (with_reducible exact b1 (by assumption)) | (with_reducible exact b2 (by assumption)) | (with_reducible exact Int.le_of_lt (by assumption)) | (with_reducible exact Nat.le_of_lt (by assumption)) | (with_reducible exact Int.natCast_nonneg _) | (with_reducible exact Int.le_of_lt (Int.pow_pos (by decide))) | (with_reducible exact Int.pow_pos (by decide)) | (with_reducible exact Nat.lt_of_lt_of_le (by decide) (by assumption)) | (with_reducible exact Int.ne_of_gt (by assumption)) | lia | omega), show -1 - X = (X.natAbs : Int) - 1 by (first | lia | omega)]
    exact B_ret (J_g J_bool (J_call eo o st_sub (Js_cons (J_name eo rfl rfl (hf3 _)) (Js_cons (J_one hB) (Js_cons (J_name eo rfl rfl (hf3 _)) Js_nil))) (fnc_sub hn hn9 (by decide) (by first | (with_reducible assumption) | (with_reducible exact Nat.le_trans (by assumption) (by decide)) | (with_reducible exact b0 (by assumption)) | (with_reducible exact b1 (by assumption)) | (with_reducible exact b2 (by assumption)) | (with_reducible exact Int.le_of_lt (by assumption)) | (with_reducible exact Nat.le_of_lt (by assumption)) | (with_reducible exact Int.natCast_nonneg _) | (with_reducible exact Int.le_of_lt (Int.pow_pos (by decide))) | (with_reducible exact Int.pow_pos (by decide)) | (with_reducible exact Nat.lt_of_lt_of_le (by decide) (by assumption)) | (with_reducible exact Int.ne_of_gt (by assumption)) | lia | omega) (by first | (with_reducible assumption) | (with_reducible exact Nat.le_trans (by assumption) (by decide)) | (with_reducible exact b0 (by assumption)) | (with_reducible exact b1 (by assumption)) | (with_reducible exact b2 (by assumption)) | (with_reducible exact Int.le_of_lt (by assumption)) | (with_reducible exact Nat.le_of_lt (by assumption)) | (with_reducible exact Int.natCast_nonneg _) | (with_reducible exact Int.le_of_lt (Int.pow_pos (by decide))) | (with_reducible exact Int.pow_pos (by decide)) | (with_reducible exact Nat.lt_of_lt_of_le (by decide) (by assumption)) | (with_reducible exact Int.ne_of_gt (by assumption)) | lia | omega)) (by decide)))
  · have hX := of_decide_eq_false hb
    rw [sg_neg (X := -1 - X) (by first | (with_reducible assumption) | (with_reducible exact Nat.le_trans (by assumption) (by decide)) | (with_reducible exact b0 (by assumption)) | (with_reducible exact b1 (by assumption)) | (with_reducible exact b2 (by assumption)) | (with_reducible exact Int.le_of_lt (by assumption)) | (with_reducible exact Nat.le_of_lt (by assumption)) | (with_reducible exact Int.natCast_nonneg _) | (with_reducible exact Int.le_of_lt (Int.pow_pos (by decide))) | (with_reducible exact Int.pow_pos (by decide)) | (with_reducible exact Nat.lt_of_lt_of_le (by decide) (by assumption)) | (with_reducible exact Int.ne_of_gt (by assumption)) | lia | omega), show -(-1 - X) = (X.natAbs : Int) + 1 by (first | lia | omega)]
    exact B_ret (J_g J_bool (J_call eo o st_add (Js_cons (J_name eo rfl rfl (hf3 _)) (Js_cons (J_one hB) (Js_cons (J_name eo rfl rfl (hf3 _)) Js_nil))) (fnc_add hn hn9 (by first | (with_reducible assumption) | (with_reducible exact Nat.le_trans (by assumption) (by decide)) | (with_reducible exact b0 (by assumption)) | (with_reducible exact b1 (by assumption)) | (with_reducible exact b2 (by assumption)) | (with_reducible exact Int.le_of_lt (by assumption)) | (with_reducible exact Nat.le_of_lt (by assumption)) | (with_reducible exact Int.natCast_nonneg _) | (with_reducible exact Int.le_of_lt (Int.pow_pos (by decide))) | (with_reducible exact Int.pow_pos (by decide)) | (with_reducible exact Nat.lt_of_lt_of_le (by decide) (by assumption)) | (with_reducible exact Int.ne_of_gt (by assumption)) | lia | omega) (by decide) (by first | (with_reducible assumption) | (with_reducible exact Nat.le_trans (by assumption) (by decide)) | (with_reducible exact b0 (by assumption)) | (with_reducible exact b1 (by assumption)) | (with_reducible exact b2 (by assumption)) | (with_reducible exact Int.le_of_lt (by assumption)) | (with_reducible exact Nat.le_of_lt (by assumption)) | (with_reducible exact Int.natCast_nonneg _) | (with_reducible exact Int.le_of_lt (Int.pow_pos (by decide))) | (with_reducible exact Int.pow_pos (by decide)) | (with_reducible exact Nat.lt_of_lt_of_le (by decide) (by assumption)) | (with_reducible exact Int.ne_of_gt (by assumption)) | lia | omega) h1) (by decide)))
theorem fnc_s_bit {N : Nat} : Fnc w mean mg mb 3 "s_bit" [sg n X, .i N, .i n] (.i (bitI X N)) := by
  have hB := bs_gt hn
  refine' fnc_intro ["x", "n", "w"] ?hf ?hbind ?hloc ?hnd ?hlen ?hcell ?c2 ?c3 ?c4 ?_
  ((case hf => exact rfl); (case hcell => decide); (case hloc => decide); (case hnd => decide); (case hlen => exact rfl); (case c2 => exact rfl); (case c3 => exact rfl); (case c4 => exact rfl))
  (case hbind => (intro s _ _ _ vals hl; obtain ⟨v1, v2, v3, hv⟩ := len3 hl; subst hv; exact BindsTo.of_eq rfl))
  intro c _ _ o hcl eo
  have hf3 : ∀ q, c.cl.lookup q = none := fun q => by rw [hcl]; rfl
  refine B_unst (B_unpack eo (J_name eo rfl rfl (hf3 _)) rfl rfl (hf3 _) (hf3 _) (B_ifret (JT_not (JT_plain (J_name eo rfl rfl (hf3 _)))) (fun hb => ?_) (fun hb => ?_)))
  · have hX : ¬ X < 0 := by simpa using hb
    refine B_ret (J_cast (J_call eo o st_bit (Js_cons (J_name eo rfl rfl (hf3 _)) (Js_cons (J_name eo rfl rfl (hf3 _)) (Js_cons (J_name eo rfl rfl (hf3 _)) Js_nil))) (fnc_bit hn hn9 (by first | (with_reducible assumption) | (with_reducible exact Nat.le_trans (by assumption) (by decide)) | (with_reducible exact b0 (by assumption)) | (with_reducible exact b1 (by assumption)) | (with_reducible exact b2 (by assumption)) | (with_reducible exact Int.le_of_lt (by assumption)) | (with_reducible exact Nat.le_of_lt (by assumption)) | (with_reducible exact Int.natCast_nonneg _) | (with_reducible exact Int.le_of_lt (Int.pow_pos (by decide))) | (with_reducible exact Int.pow_pos (by decide)) | (with_reducible exact Nat.lt_of_lt_of_le (by decide) (by assumption)) | (with_reducible exact Int.ne_of_gt (by assumption)) | lia | omega) (by first | (with_reducible assumption) | (with_reducible exact Nat.le_trans (by assumption) (by decide)) | (with_reducible exact b0 (by assumption)) | (with_reducible exact b1 (by assumption)) | (with_reducible exact b2 (by assumption)) | (with_reducible exact Int.le_of_lt (by assumption)) | (with_reducible exact Nat.le_of_lt (by assumption)) | (with_reducible exact Int.natCast_nonneg _) | (with_reducible exact Int.le_of_lt (Int.pow_pos (by decide))) | (with_reducible exact Int.pow_pos (by decide)) | (with_reducible exact Nat.lt_of_lt_of_le (by decide) (by assumption)) | (with_reducible exact Int.ne_of_gt (by assumption)) | lia | omega)) (by decide)) ?_)
    rw [show (X.natAbs : Int) = X by (first | lia | omega)]; rfl
  · have hX : X < 0 := by simpa using hb
    have hm := limbs_len_mono hB (X := (X.natAbs : Int)) (Y := (X.natAbs : Int) - 1) (by first | (with_reducible assumption) | (with_reducible exact Nat.le_trans (by assumption) (by decide)) | (with_reducible exact b0 (by assumption)) | (with_reducible exact b1 (by assumption)) | (with_reducible exact b2 (by assumption)) | (with_reducible exact Int.le_of_lt (by assumption)) | (with_reducible exact Nat.le_of_lt (by assumption)) | (with_reducible exact Int.natCast_nonneg _) | (with_reducible exact Int.le_of_lt (Int.pow_pos (by decide))) | (with_reducible exact Int.pow_pos (by decide)) | (with_reducible exact Nat.lt_of_lt_of_le (by decide) (by assumption)) | (with_reducible exact Int.ne_of_gt (by assumption)) | lia | omega) (by first | (with_reducible assumption) | (with_reducible exact Nat.le_trans (by assumption) (by decide)) | (with_reducible exact b0 (by assumption)) | (with_reducible exact b1 (by assumption)) | (with_reducible exact b2 (by assumption)) | (with_reducible exact Int.le_of_lt (by assumption)) | (with_reducible exact Nat.le_of_lt (by assumption)) | (with_reducible exact Int.natCast_nonneg _) | (with_reducible exact Int.le_of_lt (Int.pow_pos (by decide))) | (with_reducible exact Int.pow_pos (by decide)) | (with_reducible exact Nat.lt_of_lt_of_le (by decide) (by assumption)) | (with_reducible exact Int.ne_of_gt (by assumption)) | lia | omega)
    refine B_ret (J_cast (J_bin J_int (J_call eo o st_bit (Js_cons (J_call eo o st_sub (Js_cons (J_name eo rfl rfl (hf3 _)) (Js_cons (J_one hB) (Js_cons (J_name eo rfl rfl (hf3 _)) Js_nil))) (fnc_sub hn hn9 (by decide) (by first | (with_reducible assumption) | (with_reducible exact Nat.le_trans (by assumption) (by decide)) | (with_reducible exact b0 (by assumption)) | (with_reducible exact b1 (by assumption)) | (with_reducible exact b2 (by assumption)) | (with_reducible exact Int.le_of_lt (by assumption)) | (with_reducible exact Nat.le_of_lt (by assumption)) | (with_reducible exact Int.natCast_nonneg _) | (with_reducible exact Int.le_of_lt (Int.pow_pos (by decide))) | (with_reducible exact Int.pow_pos (by decide)) | (with_reducible exact Nat.lt_of_lt_of_le (by decide) (by assumption)) | (with_reducible exact Int.ne_of_gt (by assumption)) | lia | omega) (by first | (with_reducible assumption) | (with_reducible exact Nat.le_trans (by assumption) (by decide)) | (with_reducible exact b0 (by assumption)) | (with_reducible exact b1 (by assumption)) | (with_reducible exact b2 (by assumption)) | (with_reducible exact Int.le_of_lt (by assumption)) | (with_reducible exact Nat.le_of_lt (by assumption)) | (with_reducible exact Int.natCast_nonneg _) | (with_reducible exact Int.le_of_lt (Int.pow_pos (by decide))) | (with_reducible exact Int.pow_pos (by decide)) | (with_reducible exact Nat.lt_of_lt_of_le (by decide) (by assumption)) | (with_reducible exact Int.ne_of_gt (by assumption)) | lia | omega)) (by decide)) (Js_cons (J_name eo rfl rfl (hf3 _)) (Js_cons (J_name eo rfl rfl (hf3 _)) Js_nil))) (fnc_bit hn hn9 (by first | (with_reducible assumption) | (with_reducible exact Nat.le_trans (by assumption) (by decide)) | (with_reducible exact b0 (by assumption)) | (with_reducible exact b1 (by assumption)) | (with_reducible exact b2 (by assumption)) | (with_reducible exact Int.le_of_lt (by assumption)) | (with_reducible exact Nat.le_of_lt (by assumption)) | (with_reducible exact Int.natCast_nonneg _) | (with_reducible exact Int.le_of_lt (Int.pow_pos (by decide))) | (with_reducible exact Int.pow_pos (by decide)) | (with_reducible exact Nat.lt_of_lt_of_le (by decide) (by assumption)) | (with_reducible exact Int.ne_of_gt (by assumption)) | lia | omega) (by first | (with_reducible assumption) | (with_reducible exact Nat.le_trans (by assumption) (by decide)) | (with_reducible exact b0 (by assumption)) | (with_reducible exact b1 (by assumption)) | (with_reducible exact b2 (by assumption)) | (with_reducible exact Int.le_of_lt (by assumption)) | (with_reducible exact Nat.le_of_lt (by assumption)) | (with_reducible exact Int.natCast_nonneg _) | (with_reducible exact Int.le_of_lt (Int.pow_pos (by decide))) | (with_reducible exact Int.pow_pos (by decide)) | (with_reducible exact Nat.lt_of_lt_of_le (by decide) (by assumption)) | (with_reducible exact Int.ne_of_gt (by assumption)) | lia | omega)) (by decide)) op_sub) ?_)
    rw [show (X.natAbs : Int) - 1 = -1 - X by (first | lia | omega)]
    have := bitI_not X N
    unfold bitI at this ⊢
    congr 1; (first | lia | omega)
theorem fnc_set_bit {N : Nat} (hN : N ≤ 400) (hl2 : (limbs (2 ^ n) (2 ^ N)).length ≤ 500) : Fnc w mean mg mb 4 "set_bit" [sg n X, .i N, .i n] (sg n (Builtin.bitOr X (2 ^ N))) := by
  have hB := bs_gt hn
  have hp := Int.pow_pos (n := 2) (m := N) (by decide)
  refine' fnc_intro ["x", "n", "w"] ?hf ?hbind ?hloc ?hnd ?hlen ?hcell ?c2 ?c3 ?c4 ?_
  ((case hf => exact rfl); (case hcell => decide); (case hloc => decide); (case hnd => decide); (case hlen => exact rfl); (case c2 => exact rfl); (case c3 => exact rfl); (case c4 => exact rfl))
  (case hbind => (intro s _ _ _ vals hl; obtain ⟨v1, v2, v3, hv⟩ := len3 hl; subst hv; exact BindsTo.of_eq rfl))
  intro c _ _ o hcl eo
  have hf3 : ∀ q, c.cl.lookup q = none := fun q => by rw [hcl]; rfl
  rw [or_bit]
  refine B_ifret (JT_cmp (J_call eo o st_s_bit (Js_cons (J_name eo rfl rfl (hf3 _)) (Js_cons (J_name eo rfl rfl (hf3 _)) (Js_cons (J_name eo rfl rfl (hf3 _)) Js_nil))) (fnc_s_bit hn hn9 hl) (by decide)) J_int op_eq) (fun hb => ?_) (fun hb => ?_)
  · rw [if_pos (of_decide_eq_true hb)]; exact B_ret (J_name eo rfl rfl (hf3 _))
  have hb := of_decide_eq_false hb
  rw [if_neg hb]
  refine B_unst (B_unpack eo (J_name eo rfl rfl (hf3 _)) rfl rfl (hf3 _) (hf3 _) (B_ifret (JT_plain (J_name eo rfl rfl (hf3 _))) (fun hb => ?_) (fun hb => ?_)))
  · have hX := of_decide_eq_true hb
    have h0 : bitI (-1 - X) N = 1 := by rw [bitI_not]; rcases bitI_two X N with h | h <;> (first | lia | omega)
    have h1 := bitI_le (by first | (with_reducible assumption) | (with_reducible exact Nat.le_trans (by assumption) (by decide)) | (with_reducible exact b0 (by assumption)) | (with_reducible exact b1 (by assumption)) | (with_reducible exact b2 (by assumption)) | (with_reducible exact Int.le_of_lt (by assumption)) | (with_reducible exact Nat.le_of_lt (by assumption)) | (with_reducible exact Int.natCast_nonneg _) | (with_reducible exact Int.le_of_lt (Int.pow_pos (by decide))) | (with_reducible exact Int.pow_pos (by decide)) | (with_reducible exact Nat.lt_of_lt_of_le (by decide) (by assumption)) | (with_reducible exact Int.ne_of_gt (by assumption)) | lia | omega) h0
    rw [sg_neg (X := X + 2 ^ N) (by first | (with_reducible assumption) | (with_reducible exact Nat.le_trans (by assumption) (by decide)) | (with_reducible exact b0 (by assumption)) | (with_reducible exact b1 (by assumption)) | (with_reducible exact b2 (by assumption)) | (with_reducible exact Int.le_of_lt (by assumption)) | (with_reducible exact Nat.le_of_lt (by assumption)) | (with_reducible exact Int.natCast_nonneg _) | (with_reducible exact Int.le_of_lt (Int.pow_pos (by decide))) | (with_reducible exact Int.pow_pos (by decide)) | (with_reducible exact Nat.lt_of_lt_of_le (by decide) (by assumption)) | (with_reducible exact Int.ne_of_gt (by assumption)) | lia | omega), show -(X + 2 ^ N) = (X.natAbs : Int) - 2 ^ N by (first | lia | omega)]
    exact B_ret (J_g J_bool (J_call eo o st_sub (Js_cons (J_name eo rfl rfl (hf3 _)) (Js_cons (J_call eo o st_one_at (Js_cons (J_name eo rfl rfl (hf3 _)) (Js_cons (J_name eo rfl rfl (hf3 _)) Js_nil)) (fnc_one_at hn hn9 (by first | (with_reducible assumption) | (with_reducible exact Nat.le_trans (by assumption) (by decide)) | (with_reducible exact b0 (by assumption)) | (with_reducible exact b1 (by assumption)) | (with_reducible exact b2 (by assumption)) | (with_reducible exact Int.le_of_lt (by assumption)) | (with_reducible exact Nat.le_of_lt (by assumption)) | (with_reducible exact Int.natCast_nonneg _) | (with_reducible exact Int.le_of_lt (Int.pow_pos (by decide))) | (with_reducible exact Int.pow_pos (by decide)) | (with_reducible exact Nat.lt_of_lt_of_le (by decide) (by assumption)) | (with_reducible exact Int.ne_of_gt (by assumption)) | lia | omega)) (by decide)) (Js_cons (J_name eo rfl rfl (hf3 _)) Js_nil))) (fnc_sub hn hn9 (by first | (with_reducible assumption) | (with_reducible exact Nat.le_trans (by assumption) (by decide)) | (with_reducible exact b0 (by assumption)) | (with_reducible exact b1 (by assumption)) | (with_reducible exact b2 (by assumption)) | (with_reducible exact Int.le_of_lt (by assumption)) | (with_reducible exact Nat.le_of_lt (by assumption)) | (with_reducible exact Int.natCast_nonneg _) | (with_reducible exact Int.le_of_lt (Int.pow_pos (by decide))) | (with_reducible exact Int.pow_pos (by decide)) | (with_reducible exact Nat.lt_of_lt_of_le (by decide) (by assumption)) | (with_reducible exact Int.ne_of_gt (by assumption)) | lia | omega) (by first | (with_reducible assumption) | (with_reducible exact Nat.le_trans (by assumption) (by decide)) | (with_reducible exact b0 (by assumption)) | (with_reducible exact b1 (by assumption)) | (with_reducible exact b2 (by assumption)) | (with_reducible exact Int.le_of_lt (by assumption)) | (with_reducible exact Nat.le_of_lt (by assumption)) | (with_reducible exact Int.natCast_nonneg _) | (with_reducible exact Int.le_of_lt (Int.pow_pos (by decide))) | (with_reducible exact Int.pow_pos (by decide)) | (with_reducible exact Nat.lt_of_lt_of_le (by decide) (by assumption)) | (with_reducible exact Int.ne_of_gt (by assumption)) | lia | omega) (by first | (with_reducible assumption) | (with_reducible exact Nat.le_trans (by assumption) (by decide)) | (with_reducible exact b0 (by assumption)) | (with_reducible exact b1 (by assumption)) | (with_reducible exact b2 (by assumption)) | (with_reducible exact Int.le_of_lt (by assumption)) | (with_reducible exact Nat.le_of_lt (by assumption)) | (with_reducible exact Int.natCast_nonneg _) | (with_reducible exact Int.le_of_lt (Int.pow_pos (by decide))) | (with_reducible exact Int.pow_pos (by decide)) | (with_reducible exact Nat.lt_of_lt_of_le (by decide) (by assumption)) | (with_reducible exact Int.ne_of_gt (by assumption)) | lia | omega)) (by decide)))
  · have hX := of_decide_eq_false hb
    rw [sg_pos (X := X + 2 ^ N) (by first | (with_reducible assumption) | (with_reducible exact Nat.le_trans (by assumption) (by decide)) | (with_reducible exact b0 (by assumption)) | (with_reducible exact b1 (by assumption)) | (with_reducible exact b2 (by assumption)) | (with_reducible exact Int.le_of_lt (by assumption)) | (with_reducible exact Nat.le_of_lt (by assumption)) | (with_reducible exact Int.natCast_nonneg _) | (with_reducible exact Int.le_of_lt (Int.pow_pos (by decide))) | (with_reducible exact Int.pow_pos (by decide)) | (with_reducible exact Nat.lt_of_lt_of_le (by decide) (by assumption)) | (with_reducible exact Int.ne_of_gt (by assumption)) | lia | omega), show X + 2 ^ N = (X.natAbs : Int) + 2 ^ N by (first | lia | omega)]
    exact B_ret (J_g J_bool (J_call eo o st_add (Js_cons (J_name eo rfl rfl (hf3 _)) (Js_cons (J_call eo o st_one_at (Js_cons (J_name eo rfl rfl (hf3 _)) (Js_cons (J_name eo rfl rfl (hf3 _)) Js_nil)) (fnc_one_at hn hn9 (by first | (with_reducible assumption) | (with_reducible exact Nat.le_trans (by assumption) (by decide)) | (with_reducible exact b0 (by assumption)) | (with_reducible exact b1 (by assumption)) | (with_reducible exact b2 (by assumption)) | (with_reducible exact Int.le_of_lt (by assumption)) | (with_reducible exact Nat.le_of_lt (by assumption)) | (with_reducible exact Int.natCast_nonneg _) | (with_reducible exact Int.le_of_lt (Int.pow_pos (by decide))) | (with_reducible exact Int.pow_pos (by decide)) | (with_reducible exact Nat.lt_of_lt_of_le (by decide) (by assumption)) | (with_reducible exact Int.ne_of_gt (by assumption)) | lia | omega)) (by decide)) (Js_cons (J_name eo rfl rfl (hf3 _)) Js_nil))) (fnc_add hn hn9 (by first | (with_reducible assumption) | (with_reducible exact Nat.le_trans (by assumption) (by decide)) | (with_reducible exact b0 (by assumption)) | (with_reducible exact b1 (by assumption)) | (with_reducible exact b2 (by assumption)) | (with_reducible exact Int.le_of_lt (by assumption)) | (with_reducible exact Nat.le_of_lt (by assumption)) | (with_reducible exact Int.natCast_nonneg _) | (with_reducible exact Int.le_of_lt (Int.pow_pos (by decide))) | (with_reducible exact Int.pow_pos (by decide)) | (with_reducible exact Nat.lt_of_lt_of_le (by decide) (by assumption)) | (with_reducible exact Int.ne_of_gt (by assumption)) | lia | omega) (by first | (with_reducible assumption) | (with_reducible exact Nat.le_trans (by assumption) (by decide)) | (with_reducible exact b0 (by assumption)) | (with_reducible exact b1 (by assumption)) | (with_reducible exact b2 (by assumption)) | (with_reducible exact Int.le_of_lt (by assumption)) | (with_reducible exact Nat.le_of_lt (by assumption)) | (with_reducible exact Int.natCast_nonneg _) | (with_reducible exact Int.le_of_lt (Int.pow_pos (by decide))) | (with_reducible exact Int.pow_pos (by decide)) | (with_reducible exact Nat.lt_of_lt_of_le (by decide) (by assumption)) | (with_reducible exact Int.ne_of_gt (by assumption)) | lia | omega) (by first | (with_reducible assumption) | (with_reducible exact Nat.le_trans (by assumption) (by decide)) | (with_reducible exact b0 (by assumption)) | (with_reducible exact b1 (by assumption)) | (with_reducible exact b2 (by assumption)) | (with_reducible exact Int.le_of_lt (by assumption)) | (with_reducible exact Nat.le_of_lt (by assumption)) | (with_reducible exact Int.natCast_nonneg _) | (with_reducible exact Int.le_of_lt (Int.pow_pos (by decide))) | (with_reducible exact Int.pow_pos (by decide)) | (with_reducible exact Nat.lt_of_lt_of_le (by decide) (by assumption)) | (with_reducible exact Int.ne_of_gt (by assumption)) | lia | omega) hl2) (by decide)))
theorem fnc_clear_bit {N : Nat} (hN : N ≤ 400) (hl2 : (limbs (2 ^ n) (2 ^ N)).length ≤ 500) : Fnc w mean mg mb 4 "clear_bit" [sg n X, .i N, .i n] (sg n (Builtin.bitAnd X (0 - 1 - 2 ^ N))) := by
  have hB := bs_gt hn
  have hp := Int.pow_pos (n := 2) (m := N) (by decide)
  refine' fnc_intro ["x", "n", "w"] ?hf ?hbind ?hloc ?hnd ?hlen ?hcell ?c2 ?c3 ?c4 ?_
  ((case hf => exact rfl); (case hcell => decide); (case hloc => decide); (case hnd => decide); (case hlen => exact rfl); (case c2 => exact rfl); (case c3 => exact rfl); (case c4 => exact rfl))
  (case hbind => (intro s _ _ _ vals hl; obtain ⟨v1, v2, v3, hv⟩ := len3 hl; subst hv; exact BindsTo.of_eq rfl))
  intro c _ _ o hcl eo
  have hf3 : ∀ q, c.cl.lookup q = none := fun q => by rw [hcl]; rfl
  rw [and_bit]
  have h01 := bitI_two X N
  refine B_ifret (JT_cmp (J_call eo o st_s_bit (Js_cons (J_name eo rfl rfl (hf3 _)) (Js_cons (J_name eo rfl rfl (hf3 _)) (Js_cons (J_name eo rfl rfl (hf3 _)) Js_nil))) (fnc_s_bit hn hn9 hl) (by decide)) J_int op_eq) (fun hb => ?_) (fun hb => ?_)
  · rw [if_neg (by rw [of_decide_eq_true hb]; decide)]; exact B_ret (J_name eo rfl rfl (hf3 _))
  have hb := of_decide_eq_false hb
  have hb1 : bitI X N = 1 := by (first | lia | omega)
  rw [if_pos hb1]
  refine B_unst (B_unpack eo (J_name eo rfl rfl (hf3 _)) rfl rfl (hf3 _) (hf3 _) (B_ifret (JT_plain (J_name eo rfl rfl (hf3 _))) (fun hb => ?_) (fun hb => ?_)))
  · have hX := of_decide_eq_true hb
    rw [sg_neg (X := X - 2 ^ N) (by first | (with_reducible assumption) | (with_reducible exact Nat.le_trans (by assumption) (by decide)) | (with_reducible exact b0 (by assumption)) | (with_reducible exact b1 (by assumption)) | (with_reducible exact b2 (by assumption)) | (with_reducible exact Int.le_of_lt (by assumption)) | (with_reducible exact Nat.le_of_lt (by assumption)) | (with_reducible exact Int.natCast_nonneg _) | (with_reducible exact Int.le_of_lt (Int.pow_pos (by decide))) | (with_reducible exact Int.pow_pos (by decide)) | (with_reducible exact Nat.lt_of_lt_of_le (by decide) (by assumption)) | (with_reducible exact Int.ne_of_gt (by assumption)) | lia | omega), show -(X - 2 ^ N) = (X.natAbs : Int) + 2 ^ N by (first | lia | omega)]
    exact B_ret (J_g J_bool (J_call eo o st_add (Js_cons (J_name eo rfl rfl (hf3 _)) (Js_cons (J_call eo o st_one_at (Js_cons (J_name eo rfl rfl (hf3 _)) (Js_cons (J_name eo rfl rfl (hf3 _)) Js_nil)) (fnc_one_at hn hn9 (by first | (with_reducible assumption) | (with_reducible exact Nat.le_trans (by assumption) (by decide)) | (with_reducible exact b0 (by assumption)) | (with_reducible exact b1 (by assumption)) | (with_reducible exact b2 (by assumption)) | (with_reducible exact Int.le_of_lt (by assumption)) | (with_reducible exact Nat.le_of_lt (by assumption)) | (with_reducible exact Int.natCast_nonneg _) | (with_reducible exact Int.le_of_lt (Int.pow_pos (by decide))) | (with_reducible exact Int.pow_pos (by decide)) | (with_reducible exact Nat.lt_of_lt_of_le (by decide) (by assumption)) | (with_reducible exact Int.ne_of_gt (by assumption)) | lia | omega)) (by decide)) (Js_cons (J_name eo rfl rfl (hf3 _)) Js_nil))) (fnc_add hn hn9 (by first | (with_reducible assumption) | (with_reducible exact Nat.le_trans (by assumption) (by decide)) | (with_reducible exact b0 (by assumption)) | (with_reducible exact b1 (by assumption)) | (with_reducible exact b2 (by assumption)) | (with_reducible exact Int.le_of_lt (by assumption)) | (with_reducible exact Nat.le_of_lt (by assumption)) | (with_reducible exact Int.natCast_nonneg _) | (with_reducible exact Int.le_of_lt (Int.pow_pos (by decide))) | (with_reducible exact Int.pow_pos (by decide)) | (with_reducible exact Nat.lt_of_lt_of_le (by decide) (by assumption)) | (with_reducible exact Int.ne_of_gt (by assumption)) | lia | omega) (by first | (with_reducible assumption) | (with_reducible exact Nat.le_trans (by assumption) (by decide)) | (with_reducible exact b0 (by assumption)) | (with_reducible exact b1 (by assumption)) | (with_reducible exact b2 (by assumption)) | (with_reducible exact Int.le_of_lt (by assumption)) | (with_reducible exact Nat.le_of_lt (by assumption)) | (with_reducible exact Int.natCast_nonneg _) | (with_reducible exact Int.le_of_lt (Int.pow_pos (by decide))) | (with_reducible exact Int.pow_pos (by decide)) | (with_reducible exact Nat.lt_of_lt_of_le (by decide) (by assumption)) | (with_reducible exact Int.ne_of_gt (by assumption)) | lia | omega) (by first | (with_reducible assumption) | (with_reducible exact Nat.le_trans (by assumption) (by decide)) | (with_reducible exact b0 (by assumption)) | (with_reducible exact b1 (by assumption)) | (with_reducible exact b2 (by assumption)) | (with_reducible exact Int.le_of_lt (by assumption)) | (with_reducible exact Nat.le_of_lt (by assumption)) | (with_reducible exact Int.natCast_nonneg _) | (with_reducible exact Int.le_of_lt (Int.pow_pos (by decide))) | (with_reducible exact Int.pow_pos (by decide)) | (with_reducible exact Nat.lt_of_lt_of_le (by decide) (by assumption)) | (with_reducible exact Int.ne_of_gt (by assumption)) | lia | omega) hl2) (by decide)))
  · have hX := of_decide_eq_false hb
    have h1 := bitI_le (by first | (with_reducible assumption) | (with_reducible exact Nat.le_trans (by assumption) (by decide)) | (with_reducible exact b0 (by assumption)) | (with_reducible exact b1 (by assumption)) | (with_reducible exact b2 (by assumption)) | (with_reducible exact Int.le_of_lt (by assumption)) | (with_reducible exact Nat.le_of_lt (by assumption)) | (with_reducible exact Int.natCast_nonneg _) | (with_reducible exact Int.le_of_lt (Int.pow_pos (by decide))) | (with_reducible exact Int.pow_pos (by decide)) | (with_reducible exact Nat.lt_of_lt_of_le (by decide) (by assumption)) | (with_reducible exact Int.ne_of_gt (by assumption)) | lia | omega) hb1
    rw [sg_pos (X := X - 2 ^ N) (by first | (with_reducible assumption) | (with_reducible exact Nat.le_trans (by assumption) (by decide)) | (with_reducible exact b0 (by assumption)) | (with_reducible exact b1 (by assumption)) | (with_reducible exact b2 (by assumption)) | (with_reducible exact Int.le_of_lt (by assumption)) | (with_reducible exact Nat.le_of_lt (by assumption)) | (with_reducible exact Int.natCast_nonneg _) | (with_reducible exact Int.le_of_lt (Int.pow_pos (by decide))) | (with_reducible exact Int.pow_pos (by decide)) | (with_reducible exact Nat.lt_of_lt_of_le (by decide) (by assumption)) | (with_reducible exact Int.ne_of_gt (by assumption)) | lia | omega), show X - 2 ^ N = (X.natAbs : Int) - 2 ^ N by (first | lia | omega)]
    exact B_ret (J_g J_bool (J_call eo o st_sub (Js_cons (J_name eo rfl rfl (hf3 _)) (Js_cons (J_call eo o st_one_at (Js_cons (J_name eo rfl rfl (hf3 _)) (Js_cons (J_name eo rfl rfl (hf3 _)) Js_nil)) (fnc_one_at hn hn9 (by first | (with_reducible assumption) | (with_reducible exact Nat.le_trans (by assumption) (by decide)) | (with_reducible exact b0 (by assumption)) | (with_reducible exact b1 (by assumption)) | (with_reducible exact b2 (by assumption)) | (with_reducible exact Int.le_of_lt (by assumption)) | (with_reducible exact Nat.le_of_lt (by assumption)) | (with_reducible exact Int.natCast_nonneg _) | (with_reducible exact Int.le_of_lt (Int.pow_pos (by decide))) | (with_reducible exact Int.pow_pos (by decide)) | (with_reducible exact Nat.lt_of_lt_of_le (by decide) (by assumption)) | (with_reducible exact Int.ne_of_gt (by assumption)) | lia | omega)) (by decide)) (Js_cons (J_name eo rfl rfl (hf3 _)) Js_nil))) (fnc_sub hn hn9 (by first | (with_reducible assumption) | (with_reducible exact Nat.le_trans (by assumption) (by decide)) | (with_reducible exact b0 (by assumption)) | (with_reducible exact b1 (by assumption)) | (with_reducible exact b2 (by assumption)) | (with_reducible exact Int.le_of_lt (by assumption)) | (with_reducible exact Nat.le_of_lt (by assumption)) | (with_reducible exact Int.natCast_nonneg _) | (with_reducible exact Int.le_of_lt (Int.pow_pos (by decide))) | (with_reducible exact Int.pow_pos (by decide)) | (with_reducible exact Nat.lt_of_lt_of_le (by decide) (by assumption)) | (with_reducible exact Int.ne_of_gt (by assumption)) | lia | omega) (by first | (with_reducible assumption) | (with_reducible exact Nat.le_trans (by assumption) (by decide)) | (with_reducible exact b0 (by assumption)) | (with_reducible exact b1 (by assumption)) | (with_reducible exact b2 (by assumption)) | (with_reducible exact Int.le_of_lt (by assumption)) | (with_reducible exact Nat.le_of_lt (by assumption)) | (with_reducible exact Int.natCast_nonneg _) | (with_reducible exact Int.le_of_lt (Int.pow_pos (by decide))) | (with_reducible exact Int.pow_pos (by decide)) | (with_reducible exact Nat.lt_of_lt_of_le (by decide) (by assumption)) | (with_reducible exact Int.ne_of_gt (by assumption)) | lia | omega) (by first | (with_reducible assumption) | (with_reducible exact Nat.le_trans (by assumption) (by decide)) | (with_reducible exact b0 (by assumption)) | (with_reducible exact b1 (by assumption)) | (with_reducible exact b2 (by assumption)) | (with_reducible exact Int.le_of_lt (by assumption)) | (with_reducible exact Nat.le_of_lt (by assumption)) | (with_reducible exact Int.natCast_nonneg _) | (with_reducible exact Int.le_of_lt (Int.pow_pos (by decide))) | (with_reducible exact Int.pow_pos (by decide)) | (with_reducible exact Nat.lt_of_lt_of_le (by decide) (by assumption)) | (with_reducible exact Int.ne_of_gt (by assumption)) | lia | omega)) (by decide)))
theorem fnc_flip_bit {N : Nat} (hN : N ≤ 400) (hl2 : (limbs (2 ^ n) (2 ^ N)).length ≤ 500) : Fnc w mean mg mb 5 "flip_bit" [sg n X, .i N, .i n] (sg n (Builtin.bitXor X (2 ^ N))) := by
  refine' fnc_intro ["x", "n", "w"] ?hf ?hbind ?hloc ?hnd ?hlen ?hcell ?c2 ?c3 ?c4 ?_
  ((case hf => exact rfl); (case hcell => decide); (case hloc => decide); (case hnd => decide); (case hlen => exact rfl); (case c2 => exact rfl); (case c3 => exact rfl); (case c4 => exact rfl))
  (case hbind => (intro s _ _ _ vals hl; obtain ⟨v1, v2, v3, hv⟩ := len3 hl; subst hv; exact BindsTo.of_eq rfl))
  intro c _ _ o hcl eo
  have hf3 : ∀ q, c.cl.lookup q = none := fun q => by rw [hcl]; rfl
  rw [xor_bit]
  refine B_ret (J_if (JT_cmp (J_call eo o st_s_bit (Js_cons (J_name eo rfl rfl (hf3 _)) (Js_cons (J_name eo rfl rfl (hf3 _)) (Js_cons (J_name eo rfl rfl (hf3 _)) Js_nil))) (fnc_s_bit hn hn9 hl) (by decide)) J_int op_eq) (fun hb => ?_) (fun hb => ?_))
  · have hb := of_decide_eq_true hb
    have e : X - 2 ^ N = Builtin.bitAnd X (0 - 1 - 2 ^ N) := by rw [and_bit, if_pos hb]
    rw [if_pos hb, e]
    exact J_call eo o st_clear_bit (Js_cons (J_name eo rfl rfl (hf3 _)) (Js_cons (J_name eo rfl rfl (hf3 _)) (Js_cons (J_name eo rfl rfl (hf3 _)) Js_nil))) (fnc_clear_bit hn hn9 hl hN hl2) (by decide)
  · have hb := of_decide_eq_false hb
    have e : X + 2 ^ N = Builtin.bitOr X (2 ^ N) := by rw [or_bit, if_neg hb]
    rw [if_neg hb, e]
    exact J_call eo o st_set_bit (Js_cons (J_name eo rfl rfl (hf3 _)) (Js_cons (J_name eo rfl rfl (hf3 _)) (Js_cons (J_name eo rfl rfl (hf3 _)) Js_nil))) (fnc_set_bit hn hn9 hl hN hl2) (by decide)
end

section
variable {c : Cx} {env : Env} {k : Know} {D : Nat}
theorem JN_most {e : Expr} {ns : List Int} {m : Int} {a : Addr} {p1 p2 p3 px pos : Pos} {sc : Scope} (o : c.Ok D) (eo : EO c env) (hcl : c.cl = [(("most" : Str), a)]) (hm : k.l.lookup ("most" : Str) = some (.i m)) (hj : J c env k e (.l ns)) (hlen : ns.length ≤ 1000)
    (hclos : closureFor sc env = pure env.cells := by rfl) (hk1 : ∀ cl C, (compEnvC sc cl C env).kindOf "most" = some .cell := by intro _ _; rfl) (hk2 : ∀ cl C, (compEnvC sc cl C env).kindOf "limb" = some .local := by intro _ _; rfl)
    (hcell : ∀ y ∈ sc.names, y.2 ≠ .cell := by decide) (hkind : sc.kind = .function := by rfl) (hnames : ∀ y ∈ sc.names, y.2 = .local → sc.names.lookup y.1 = some .local := by decide) (hx : ∀ x ∈ ([("limb" : Str)] : List Str), sc.names.lookup x = some .local := by decide)
    (hs : ∀ x, foldedSetIterable e env x = pure x := by intro _; rfl) :
    JN c env k (.ListComp (.BinOp (.Name "most" p1) .Sub (.Name "limb" p2) p3) [⟨.Name "limb" px, e, [], 0⟩] sc pos) (ns.map fun x => m - x) := by
  have hlk : ∀ {c' : Cx}, c'.cl = c.cl → c'.cl.lookup ("most" : Str) = some a := fun q => by rw [q, hcl]; rfl
  refine JN_of_comp ?_
  rw [List.length_map]
  refine JR_comp (fun i _ _ y => ∃ t, y = .int ((ns.map fun x => m - x).getD i 0) t) [(("most" : Str), .i m)] o eo (Src_list hj) hlen (fun _ _ _ _ _ r _ => r) (fun i hi c' o' q1 _ _ _ _ eo' => ?_) (fun y sv e => ?_) (fun i y v e => ?_) (by rw [← eo.cells]; exact hclos) hcell hkind hnames hx hs
  · have h : J c' (compEnvC sc c.cl c'.L env) ⟨false, [("limb", .i (ns.getD i 0)), ("most", .i m)], none⟩ (.BinOp (.Name "most" p1) .Sub (.Name "limb" p2) p3) (.i (m - ns.getD i 0)) :=
      J_bin (J_cell eo' rfl (hk1 _ _) (hlk q1)) (J_name eo' rfl (hk2 _ _) (by rw [q1, hcl]; rfl)) op_sub
    rw [show (ns.map fun x => m - x).getD i 0 = m - ns.getD i 0 by simp [List.getD_eq_getElem?_getD, hi]]
    exact h
  · rw [List.lookup_cons] at e
    cases hy : y == ("most" : Str) with
    | true => rw [hy] at e; cases e; rw [beq_iff_eq.mp hy]; exact ⟨hm, by rw [hcl]; rfl⟩
    | false => rw [hy] at e; cases e
  · rw [List.lookup_cons] at e
    cases hy : y == ("limb" : Str) with
    | true => rw [beq_iff_eq.mp hy, hcl]; rfl
    | false => rw [hy] at e; cases e
theorem ints_snoc {x : Int} : ∀ {us : List Value} {ns : List Int}, IntsAre us (ns ++ [x]) → ∃ vi t, us = vi ++ [.int x t]
  | _, [], h => by
    cases h with
    | cons _ t h => cases h; exact ⟨[], t, rfl⟩
  | _, n :: ns, h => by
    cases h with
    | cons _ t h =>
      obtain ⟨vi, t', e⟩ := ints_snoc h
      exact ⟨.int n t :: vi, t', by rw [e]; rfl⟩
theorem J_last {e : Expr} {ns : List Int} {x : Int} {i : Nat} {p1 p2 pos : Pos} (h1 : J c env k e (.l (ns ++ [x])))
    (hs : ∀ a u, subscripted (.UnaryOp .USub (.Constant (.int 1) i p1) p2) false (.ref a) (.int (-1) u) = operate [.ref a, .int (-1) u] (getItem (.ref a) (.int (-1) u)) := by intro _ _; with_unfolding_all rfl) (hg : ∀ a r, letTemporaryGo e (.ref a) r = pure () := by intro _ _; with_unfolding_all rfl) :
    J c env k (.Subscript e (.UnaryOp .USub (.Constant (.int 1) i p1) p2) pos) (.i x) := by
  intro h tk Q K hQ
  refine Subscript_ (h1 h tk _ K fun v h' tk' st d => J_neg J_int h' tk' _ (K.keeps st) fun u h'' tk'' st' d' => ?_)
  obtain ⟨t, rfl⟩ := d'
  obtain ⟨a, rfl, us, n, ho, hi⟩ := Den.keeps st' d
  obtain ⟨vi, t', rfl⟩ := ints_snoc hi
  have hl : (St c.s h'' tk'').heap.IsList a (vi ++ [Value.int x t']).toArray := ⟨_, ho, rfl, n, rfl⟩
  exact item_last hl (hQ _ h'' tk'' (strans st st') ⟨t', rfl⟩) (hs a t) (hg a)
end
theorem room {a size : Nat} (h : a ≤ size) (hs : size ≤ 400) : a + ((size : Int) - a).toNat ≤ 1000 ∧ (size : Int) - a ≤ 1000 ∧ -(2 ^ 62) ≤ (size : Int) - a := by lia
section
variable {w : World} {mean : ExcName → Option Value} {mg mb : Str → Option Value} {n : Nat} (hn : 0 < n) (hn9 : n ≤ 1000) {X : Int}
include hn hn9
theorem fnc_row_of {size : Nat} (hl : (limbs (2 ^ n) X.natAbs).length ≤ size) (hs : size ≤ 400) : Fnc w mean mg mb 3 "row_of" [sg n X, .i size, .i n] (.l (row (2 ^ n) size X)) := by
  have hB := bs_gt hn
  refine' fnc_introC "most" ["x", "size", "w"] ?hf ?hbind ?hloc ?hnd ?hlen ?hcell ?c3 ?c4 ?c2 ?_
  ((case hf => exact rfl); (case hcell => intro _; rfl); (case hloc => decide); (case hnd => decide); (case hlen => exact rfl); (case c2 => exact rfl); (case c3 => exact rfl); (case c4 => exact rfl))
  (case hbind => (intro _ _ _ vals hl; obtain ⟨v1, v2, v3, hv⟩ := len3 hl; subst hv; exact rfl))
  intro c _ _ a o hcl eo
  have hf3 : ∀ q, (q == ("most" : Str)) = false → c.cl.lookup q = none := fun q e => by rw [hcl, List.lookup_cons, e]; rfl
  refine B_unst (B_unpack eo (J_name eo rfl rfl (hf3 _ rfl)) rfl rfl (hf3 _ rfl) (hf3 _ rfl) ?_)
  refine B_asgC (sv := .i (2 ^ n - 1)) eo hcl (J_bin (J_bin J_int (J_name eo rfl rfl (hf3 _ rfl)) (one_shl hn9)) J_int op_sub) rfl ?_
  refine B_ifret (JT_not (JT_plain (J_name eo rfl rfl (hf3 _ rfl)))) (fun hb => ?_) (fun hb => ?_)
  · have hX : ¬ X < 0 := by simpa using hb
    have e : (X.natAbs : Int) = X := by lia
    have h1 := row_pos hB (X := (X.natAbs : Int)) (by first | (with_reducible assumption) | (with_reducible exact Nat.le_trans (by assumption) (by decide)) | (with_reducible exact b0 (by assumption)) | (with_reducible exact b1 (by assumption)) | (with_reducible exact b2 (by assumption)) | (with_reducible exact Int.le_of_lt (by assumption)) | (with_reducible exact Nat.le_of_lt (by assumption)) | (with_reducible exact Int.natCast_nonneg _) | (with_reducible exact Int.le_of_lt (Int.pow_pos (by decide))) | (with_reducible exact Int.pow_pos (by decide)) | (with_reducible exact Nat.lt_of_lt_of_le (by decide) (by assumption)) | (with_reducible exact Int.ne_of_gt (by assumption)) | lia) hl
    rw [e] at h1 hl
    refine B_ret (J_cast (JN.j (JN_add (ns := limbs (2 ^ n) X.natAbs) (ms := List.replicate (((size : Int) - (limbs (2 ^ n) X.natAbs).length).toNat) 0) (J_name eo rfl rfl (hf3 _ rfl)) (JN.j (JN_mul (JN_list (ns := [0]) (Js_cons J_int Js_nil) (by decide)) (J_bin (J_name eo rfl rfl (hf3 _ rfl)) (J_len eo o free_len (J_name eo rfl rfl (hf3 _ rfl)) (by rw [e]; exact Nat.le_trans hl (Nat.le_trans hs (by decide)))) op_sub) (by rw [e]; exact (room hl hs).2.1) (by rw [e]; exact (room hl hs).2.2))) ?_)) ?_)
    · rw [List.length_replicate, e]; exact (room hl hs).1
    · rw [e, Int.toNat_sub, h1]
  · have hX : X < 0 := by simpa using hb
    have e : (X.natAbs : Int) - 1 = -1 - X := by lia
    have hm := limbs_len_mono hB (X := (X.natAbs : Int)) (Y := (X.natAbs : Int) - 1) (by first | (with_reducible assumption) | (with_reducible exact Nat.le_trans (by assumption) (by decide)) | (with_reducible exact b0 (by assumption)) | (with_reducible exact b1 (by assumption)) | (with_reducible exact b2 (by assumption)) | (with_reducible exact Int.le_of_lt (by assumption)) | (with_reducible exact Nat.le_of_lt (by assumption)) | (with_reducible exact Int.natCast_nonneg _) | (with_reducible exact Int.le_of_lt (Int.pow_pos (by decide))) | (with_reducible exact Int.pow_pos (by decide)) | (with_reducible exact Nat.lt_of_lt_of_le (by decide) (by assumption)) | (with_reducible exact Int.ne_of_gt (by assumption)) | lia) (by first | (with_reducible assumption) | (with_reducible exact Nat.le_trans (by assumption) (by decide)) | (with_reducible exact b0 (by assumption)) | (with_reducible exact b1 (by assumption)) | (with_reducible exact b2 (by assumption)) | (with_reducible exact Int.le_of_lt (by assumption)) | (with_reducible exact Nat.le_of_lt (by assumption)) | (with_reducible exact Int.natCast_nonneg _) | (with_reducible exact Int.le_of_lt (Int.pow_pos (by decide))) | (with_reducible exact Int.pow_pos (by decide)) | (with_reducible exact Nat.lt_of_lt_of_le (by decide) (by assumption)) | (with_reducible exact Int.ne_of_gt (by assumption)) | lia)
    have hl2 := Nat.le_trans hm hl
    have hl3 := Nat.le_trans hl2 hs
    have h1 := row_neg hB hX (size := size) (by rw [← e]; exact hl2)
    rw [← e] at h1
    refine B_asg (sv := .l (limbs (2 ^ n) (X.natAbs - 1))) eo (J_call eo o st_sub (Js_cons (J_name eo rfl rfl (hf3 _ rfl)) (Js_cons (J_one hB) (Js_cons (J_name eo rfl rfl (hf3 _ rfl)) Js_nil))) (fnc_sub hn hn9 (by decide) (by first | (with_reducible assumption) | (with_reducible exact Nat.le_trans (by assumption) (by decide)) | (with_reducible exact b0 (by assumption)) | (with_reducible exact b1 (by assumption)) | (with_reducible exact b2 (by assumption)) | (with_reducible exact Int.le_of_lt (by assumption)) | (with_reducible exact Nat.le_of_lt (by assumption)) | (with_reducible exact Int.natCast_nonneg _) | (with_reducible exact Int.le_of_lt (Int.pow_pos (by decide))) | (with_reducible exact Int.pow_pos (by decide)) | (with_reducible exact Nat.lt_of_lt_of_le (by decide) (by assumption)) | (with_reducible exact Int.ne_of_gt (by assumption)) | lia) (by first | (with_reducible assumption) | (with_reducible exact Nat.le_trans (by assumption) (by decide)) | (with_reducible exact b0 (by assumption)) | (with_reducible exact b1 (by assumption)) | (with_reducible exact b2 (by assumption)) | (with_reducible exact Int.le_of_lt (by assumption)) | (with_reducible exact Nat.le_of_lt (by assumption)) | (with_reducible exact Int.natCast_nonneg _) | (with_reducible exact Int.le_of_lt (Int.pow_pos (by decide))) | (with_reducible exact Int.pow_pos (by decide)) | (with_reducible exact Nat.lt_of_lt_of_le (by decide) (by assumption)) | (with_reducible exact Int.ne_of_gt (by assumption)) | lia)) (by decide)) (fun e => nomatch e) (fun _ _ _ e => nomatch e) (hf3 _ rfl) ?_
    refine B_ret (J_cast (JN.j (JN_add (ms := List.replicate (((size : Int) - (limbs (2 ^ n) (X.natAbs - 1)).length).toNat) (2 ^ n - 1)) (JN.j (JN_most o eo hcl rfl (J_name eo rfl rfl (hf3 _ rfl)) (Nat.le_trans hl3 (by decide)))) (JN.j (JN_mul (JN_list (ns := [2 ^ n - 1]) (Js_cons (J_cell eo rfl rfl (by rw [hcl]; rfl)) Js_nil) (Nat.le_of_ble_eq_true rfl)) (J_bin (J_name eo rfl rfl (hf3 _ rfl)) (J_len eo o free_len (J_name eo rfl rfl (hf3 _ rfl)) (Nat.le_trans hl3 (by decide))) op_sub) (room hl2 hs).2.1 (room hl2 hs).2.2)) ?_)) ?_)
    · rw [List.length_replicate, List.length_map]; exact (room hl2 hs).1
    · rw [Int.toNat_sub, h1]
end

theorem top_shr {n : Nat} (hn : 0 < n) : ((2 : Int) ^ n - 1) / 2 ^ (n - 1) = 1 := by
  obtain ⟨k, rfl⟩ : ∃ k, n = k + 1 := ⟨n - 1, by (first | lia | omega)⟩
  have hp : (0 : Int) < 2 ^ k := Int.pow_pos (by decide)
  rw [Nat.add_sub_cancel, pow_succ']
  exact (kbt_unique (r := 2 ^ k - 1) hp (by first | (with_reducible assumption) | (with_reducible exact Nat.le_trans (by assumption) (by decide)) | (with_reducible exact b0 (by assumption)) | (with_reducible exact b1 (by assumption)) | (with_reducible exact b2 (by assumption)) | (with_reducible exact Int.le_of_lt (by assumption)) | (with_reducible exact Nat.le_of_lt (by assumption)) | (with_reducible exact Int.natCast_nonneg _) | (with_reducible exact Int.le_of_lt (Int.pow_pos (by decide))) | (with_reducible exact Int.pow_pos (by decide)) | (with_reducible exact Nat.lt_of_lt_of_le (by decide) (by assumption)) | (with_reducible exact Int.ne_of_gt (by assumption)) | lia | omega) (by first | (with_reducible assumption) | (with_reducible exact Nat.le_trans (by assumption) (by decide)) | (with_reducible exact b0 (by assumption)) | (with_reducible exact b1 (by assumption)) | (with_reducible exact b2 (by assumption)) | (with_reducible exact Int.le_of_lt (by assumption)) | (with_reducible exact Nat.le_of_lt (by assumption)) | (with_reducible exact Int.natCast_nonneg _) | (with_reducible exact Int.le_of_lt (Int.pow_pos (by decide))) | (with_reducible exact Int.pow_pos (by decide)) | (with_reducible exact Nat.lt_of_lt_of_le (by decide) (by assumption)) | (with_reducible exact Int.ne_of_gt (by assumption)) | lia | omega) (by first | (with_reducible assumption) | (with_reducible exact Nat.le_trans (by assumption) (by decide)) | (with_reducible exact b0 (by assumption)) | (with_reducible exact b1 (by assumption)) | (with_reducible exact b2 (by assumption)) | (with_reducible exact Int.le_of_lt (by assumption)) | (with_reducible exact Nat.le_of_lt (by assumption)) | (with_reducible exact Int.natCast_nonneg _) | (with_reducible exact Int.le_of_lt (Int.pow_pos (by decide))) | (with_reducible exact Int.pow_pos (by decide)) | (with_reducible exact Nat.lt_of_lt_of_le (by decide) (by assumption)) | (with_reducible exact Int.ne_of_gt (by assumption)) | lia | omega)).1
section
variable {w : World} {mean : ExcName → Option Value} {mg mb : Str → Option Value} {n : Nat} (hn : 0 < n) (hn9 : n ≤ 1000) {X Y : Int}
include hn hn9
theorem fnc_number_of {m : Nat} {R : Int} (hR : Fit ((2 ^ n) ^ m) R) (hm : m ≤ 300) : Fnc w mean mg mb 3 "number_of" [.l (row (2 ^ n) (m + 1) R), .i n] (sg n R) := by
  have hB := bs_gt hn
  have hM := pow_pos' hB m
  have hlr := row_length (2 ^ n) (m + 1) R
  have htop := (fit_div hM).mp hR
  obtain ⟨hR1, hR2⟩ := hR
  have hMB : (2 ^ n : Int) ^ m < (2 ^ n) ^ (m + 1) := by
    rw [pow_succ']
    have := Int.mul_lt_mul_of_pos_right hB hM
    (first | lia | omega)
  refine' fnc_introC "most" ["row", "w"] ?hf ?hbind ?hloc ?hnd ?hlen ?hcell ?c2 ?c3 ?c4 ?_
  ((case hf => exact rfl); (case hcell => intro _; rfl); (case hloc => decide); (case hnd => decide); (case hlen => exact rfl); (case c2 => exact rfl); (case c3 => exact rfl); (case c4 => exact rfl))
  (case hbind => (intro _ _ _ vals hl; obtain ⟨v1, v2, hv⟩ := len2 hl; subst hv; exact rfl))
  intro c _ _ a o hcl eo
  have hf3 : ∀ q, (q == ("most" : Str)) = false → c.cl.lookup q = none := fun q e => by rw [hcl, List.lookup_cons, e]; rfl
  refine B_asgC (sv := .i (2 ^ n - 1)) eo hcl (J_bin (J_bin J_int (J_name eo rfl rfl (hf3 _ rfl)) (one_shl hn9)) J_int op_sub) rfl ?_
  have hw1 : (n : Int) - 1 = ((n - 1 : Nat) : Int) := by (first | lia | omega)
  refine B_ifret (b := decide (0 ≤ R)) (JT_or (a := decide (((row (2 ^ n) (m + 1) R).length : Int) = 0)) (JT_cmp (J_len eo o free_len (J_name eo rfl rfl (hf3 _ rfl)) (by first | (with_reducible assumption) | (with_reducible exact Nat.le_trans (by assumption) (by decide)) | (with_reducible exact b0 (by assumption)) | (with_reducible exact b1 (by assumption)) | (with_reducible exact b2 (by assumption)) | (with_reducible exact Int.le_of_lt (by assumption)) | (with_reducible exact Nat.le_of_lt (by assumption)) | (with_reducible exact Int.natCast_nonneg _) | (with_reducible exact Int.le_of_lt (Int.pow_pos (by decide))) | (with_reducible exact Int.pow_pos (by decide)) | (with_reducible exact Nat.lt_of_lt_of_le (by decide) (by assumption)) | (with_reducible exact Int.ne_of_gt (by assumption)) | lia | omega)) J_int op_eq) (fun _ => ?_) (fun e => ?_)) (fun hb => ?_) (fun hb => ?_)
  · refine JT_cast (x := decide (R / (2 ^ n) ^ m % 2 ^ n / 2 ^ (n - 1) = 0)) (JT_cmp (J_bin (J_last (ns := row (2 ^ n) m R) (x := R / (2 ^ n) ^ m % 2 ^ n) (J_cast (x := .l (row (2 ^ n) (m + 1) R)) (J_name eo rfl rfl (hf3 _ rfl)) (congrArg SV.l (row_snoc _ hB m R)))) (J_cast (x := .i ((n : Int) - 1)) (J_bin (J_name eo rfl rfl (hf3 _ rfl)) J_int op_sub) (congrArg SV.i hw1)) op_shrN) J_int op_eq) ?_
    rcases htop with e | e <;> rw [e]
    · rw [decide_eq_true (show (0 : Int) ≤ R by have := Int.emod_add_mul_ediv R ((2 ^ n) ^ m); rw [e] at this; have := Int.emod_nonneg R (b := (2 ^ n) ^ m) (by first | (with_reducible assumption) | (with_reducible exact Nat.le_trans (by assumption) (by decide)) | (with_reducible exact b0 (by assumption)) | (with_reducible exact b1 (by assumption)) | (with_reducible exact b2 (by assumption)) | (with_reducible exact Int.le_of_lt (by assumption)) | (with_reducible exact Nat.le_of_lt (by assumption)) | (with_reducible exact Int.natCast_nonneg _) | (with_reducible exact Int.le_of_lt (Int.pow_pos (by decide))) | (with_reducible exact Int.pow_pos (by decide)) | (with_reducible exact Nat.lt_of_lt_of_le (by decide) (by assumption)) | (with_reducible exact Int.ne_of_gt (by assumption)) | lia | omega); (first | lia | omega)), Int.zero_emod, Int.zero_ediv]; rfl
    · rw [decide_eq_false (show ¬ (0 : Int) ≤ R by intro q; rw [Int.ediv_eq_zero_of_lt q hR2] at e; cases e), show (-1 : Int) % 2 ^ n = 2 ^ n - 1 from (kbt_unique (q := -1) (by first | (with_reducible assumption) | (with_reducible exact Nat.le_trans (by assumption) (by decide)) | (with_reducible exact b0 (by assumption)) | (with_reducible exact b1 (by assumption)) | (with_reducible exact b2 (by assumption)) | (with_reducible exact Int.le_of_lt (by assumption)) | (with_reducible exact Nat.le_of_lt (by assumption)) | (with_reducible exact Int.natCast_nonneg _) | (with_reducible exact Int.le_of_lt (Int.pow_pos (by decide))) | (with_reducible exact Int.pow_pos (by decide)) | (with_reducible exact Nat.lt_of_lt_of_le (by decide) (by assumption)) | (with_reducible exact Int.ne_of_gt (by assumption)) | lia | omega) (by first | (with_reducible assumption) | (with_reducible exact Nat.le_trans (by assumption) (by decide)) | (with_reducible exact b0 (by assumption)) | (with_reducible exact b1 (by assumption)) | (with_reducible exact b2 (by assumption)) | (with_reducible exact Int.le_of_lt (by assumption)) | (with_reducible exact Nat.le_of_lt (by assumption)) | (with_reducible exact Int.natCast_nonneg _) | (with_reducible exact Int.le_of_lt (Int.pow_pos (by decide))) | (with_reducible exact Int.pow_pos (by decide)) | (with_reducible exact Nat.lt_of_lt_of_le (by decide) (by assumption)) | (with_reducible exact Int.ne_of_gt (by assumption)) | lia | omega) (by first | (with_reducible assumption) | (with_reducible exact Nat.le_trans (by assumption) (by decide)) | (with_reducible exact b0 (by assumption)) | (with_reducible exact b1 (by assumption)) | (with_reducible exact b2 (by assumption)) | (with_reducible exact Int.le_of_lt (by assumption)) | (with_reducible exact Nat.le_of_lt (by assumption)) | (with_reducible exact Int.natCast_nonneg _) | (with_reducible exact Int.le_of_lt (Int.pow_pos (by decide))) | (with_reducible exact Int.pow_pos (by decide)) | (with_reducible exact Nat.lt_of_lt_of_le (by decide) (by assumption)) | (with_reducible exact Int.ne_of_gt (by assumption)) | lia | omega) (by first | (with_reducible assumption) | (with_reducible exact Nat.le_trans (by assumption) (by decide)) | (with_reducible exact b0 (by assumption)) | (with_reducible exact b1 (by assumption)) | (with_reducible exact b2 (by assumption)) | (with_reducible exact Int.le_of_lt (by assumption)) | (with_reducible exact Nat.le_of_lt (by assumption)) | (with_reducible exact Int.natCast_nonneg _) | (with_reducible exact Int.le_of_lt (Int.pow_pos (by decide))) | (with_reducible exact Int.pow_pos (by decide)) | (with_reducible exact Nat.lt_of_lt_of_le (by decide) (by assumption)) | (with_reducible exact Int.ne_of_gt (by assumption)) | lia | omega)).2, top_shr hn]; rfl
  · have := of_decide_eq_true e; (first | lia | omega)
  · have h0 := of_decide_eq_true hb
    rw [sg_pos h0, ← strip_row hB (m + 1) h0 (by first | (with_reducible assumption) | (with_reducible exact Nat.le_trans (by assumption) (by decide)) | (with_reducible exact b0 (by assumption)) | (with_reducible exact b1 (by assumption)) | (with_reducible exact b2 (by assumption)) | (with_reducible exact Int.le_of_lt (by assumption)) | (with_reducible exact Nat.le_of_lt (by assumption)) | (with_reducible exact Int.natCast_nonneg _) | (with_reducible exact Int.le_of_lt (Int.pow_pos (by decide))) | (with_reducible exact Int.pow_pos (by decide)) | (with_reducible exact Nat.lt_of_lt_of_le (by decide) (by assumption)) | (with_reducible exact Int.ne_of_gt (by assumption)) | lia | omega)]
    exact B_ret (J_g J_bool (J_call eo o st_normal (Js_cons (J_name eo rfl rfl (hf3 _ rfl)) Js_nil) (fnc_normal (by first | (with_reducible assumption) | (with_reducible exact Nat.le_trans (by assumption) (by decide)) | (with_reducible exact b0 (by assumption)) | (with_reducible exact b1 (by assumption)) | (with_reducible exact b2 (by assumption)) | (with_reducible exact Int.le_of_lt (by assumption)) | (with_reducible exact Nat.le_of_lt (by assumption)) | (with_reducible exact Int.natCast_nonneg _) | (with_reducible exact Int.le_of_lt (Int.pow_pos (by decide))) | (with_reducible exact Int.pow_pos (by decide)) | (with_reducible exact Nat.lt_of_lt_of_le (by decide) (by assumption)) | (with_reducible exact Int.ne_of_gt (by assumption)) | lia | omega)) (by decide)))
  · have h0 : R < 0 := by simpa using hb
    have e1 : strip ((row (2 ^ n) (m + 1) R).map fun x => 2 ^ n - 1 - x) = limbs (2 ^ n) (-1 - R) := by rw [← row_not hB, strip_row hB _ (by first | (with_reducible assumption) | (with_reducible exact Nat.le_trans (by assumption) (by decide)) | (with_reducible exact b0 (by assumption)) | (with_reducible exact b1 (by assumption)) | (with_reducible exact b2 (by assumption)) | (with_reducible exact Int.le_of_lt (by assumption)) | (with_reducible exact Nat.le_of_lt (by assumption)) | (with_reducible exact Int.natCast_nonneg _) | (with_reducible exact Int.le_of_lt (Int.pow_pos (by decide))) | (with_reducible exact Int.pow_pos (by decide)) | (with_reducible exact Nat.lt_of_lt_of_le (by decide) (by assumption)) | (with_reducible exact Int.ne_of_gt (by assumption)) | lia | omega) (by first | (with_reducible assumption) | (with_reducible exact Nat.le_trans (by assumption) (by decide)) | (with_reducible exact b0 (by assumption)) | (with_reducible exact b1 (by assumption)) | (with_reducible exact b2 (by assumption)) | (with_reducible exact Int.le_of_lt (by assumption)) | (with_reducible exact Nat.le_of_lt (by assumption)) | (with_reducible exact Int.natCast_nonneg _) | (with_reducible exact Int.le_of_lt (Int.pow_pos (by decide))) | (with_reducible exact Int.pow_pos (by decide)) | (with_reducible exact Nat.lt_of_lt_of_le (by decide) (by assumption)) | (with_reducible exact Int.ne_of_gt (by assumption)) | lia | omega)]
    have hl1 : (limbs (2 ^ n) 1).length ≤ 500 := by rw [limbs_1 hB]; decide
    have hl2 : (limbs (2 ^ n) (-1 - R)).length ≤ m := limbs_len_le hB (by first | (with_reducible assumption) | (with_reducible exact Nat.le_trans (by assumption) (by decide)) | (with_reducible exact b0 (by assumption)) | (with_reducible exact b1 (by assumption)) | (with_reducible exact b2 (by assumption)) | (with_reducible exact Int.le_of_lt (by assumption)) | (with_reducible exact Nat.le_of_lt (by assumption)) | (with_reducible exact Int.natCast_nonneg _) | (with_reducible exact Int.le_of_lt (Int.pow_pos (by decide))) | (with_reducible exact Int.pow_pos (by decide)) | (with_reducible exact Nat.lt_of_lt_of_le (by decide) (by assumption)) | (with_reducible exact Int.ne_of_gt (by assumption)) | lia | omega)
    rw [sg_neg h0, show -R = -1 - R + 1 by (first | lia | omega)]
    refine B_ret (J_g J_bool (J_call eo o st_add (Js_cons (J_cast (J_call eo o st_normal (Js_cons (JN.j (JN_most o eo hcl rfl (J_name eo rfl rfl (hf3 _ rfl)) (by first | (with_reducible assumption) | (with_reducible exact Nat.le_trans (by assumption) (by decide)) | (with_reducible exact b0 (by assumption)) | (with_reducible exact b1 (by assumption)) | (with_reducible exact b2 (by assumption)) | (with_reducible exact Int.le_of_lt (by assumption)) | (with_reducible exact Nat.le_of_lt (by assumption)) | (with_reducible exact Int.natCast_nonneg _) | (with_reducible exact Int.le_of_lt (Int.pow_pos (by decide))) | (with_reducible exact Int.pow_pos (by decide)) | (with_reducible exact Nat.lt_of_lt_of_le (by decide) (by assumption)) | (with_reducible exact Int.ne_of_gt (by assumption)) | lia | omega))) Js_nil) (fnc_normal (by rw [List.length_map]; (first | lia | omega))) (by decide)) (congrArg SV.l e1)) (Js_cons (J_one hB) (Js_cons (J_name eo rfl rfl (hf3 _ rfl)) Js_nil))) (fnc_add hn hn9 (by first | (with_reducible assumption) | (with_reducible exact Nat.le_trans (by assumption) (by decide)) | (with_reducible exact b0 (by assumption)) | (with_reducible exact b1 (by assumption)) | (with_reducible exact b2 (by assumption)) | (with_reducible exact Int.le_of_lt (by assumption)) | (with_reducible exact Nat.le_of_lt (by assumption)) | (with_reducible exact Int.natCast_nonneg _) | (with_reducible exact Int.le_of_lt (Int.pow_pos (by decide))) | (with_reducible exact Int.pow_pos (by decide)) | (with_reducible exact Nat.lt_of_lt_of_le (by decide) (by assumption)) | (with_reducible exact Int.ne_of_gt (by assumption)) | lia | omega) (by decide) (by first | (with_reducible assumption) | (with_reducible exact Nat.le_trans (by assumption) (by decide)) | (with_reducible exact b0 (by assumption)) | (with_reducible exact b1 (by assumption)) | (with_reducible exact b2 (by assumption)) | (with_reducible exact Int.le_of_lt (by assumption)) | (with_reducible exact Nat.le_of_lt (by assumption)) | (with_reducible exact Int.natCast_nonneg _) | (with_reducible exact Int.le_of_lt (Int.pow_pos (by decide))) | (with_reducible exact Int.pow_pos (by decide)) | (with_reducible exact Nat.lt_of_lt_of_le (by decide) (by assumption)) | (with_reducible exact Int.ne_of_gt (by assumption)) | lia | omega) hl1) (by decide)))
end

section
variable {c : Cx} {env : Env} {k : Know} {D : Nat}
theorem JN_zipop {e1 e2 : Expr} {ns ms rs : List Int} {op : Operator} {f : Int → Int → Int} {p1 p2 p3 p4 p5 p6 p7 p8 pos : Pos} {kk : Nat} {sc : Scope} (hop : ∀ (c : Cx) a b, Op c (binaryOp op) (.i a) (.i b) (.i (f a b))) (o : c.Ok D) (eo : EO c env) (hcl : c.cl = [])
    (h1 : J c env k e1 (.l ns)) (h2 : J c env k e2 (.l ms)) (hl : ns.length = ms.length) (hlen : ns.length ≤ 1000) (hrl : rs.length = ns.length) (hr : ∀ i, i < ns.length → rs.getD i 0 = f (ns.getD i 0) (ms.getD i 0))
    (hs1 : starEach [e1, e2] env = (false, eval e1 env) :: starEach [e2] env := by rfl) (hs2 : starEach [e2] env = (false, eval e2 env) :: starEach [] env := by rfl) (hpl : (backTo p8 (starEach [e2] env)).any (·.1) = false := by rfl) (hx : env.kindOf "zip" = some .globalImplicit := by rfl)
    (hclos : closureFor sc env = pure [] := by rfl) (hk1 : ∀ cl C, (compEnvC sc cl C env).kindOf "one" = some .local := by intro _ _; rfl) (hk2 : ∀ cl C, (compEnvC sc cl C env).kindOf "other" = some .local := by intro _ _; rfl)
    (hcell : ∀ y ∈ sc.names, y.2 ≠ .cell := by decide) (hkind : sc.kind = .function := by rfl) (hnames : ∀ y ∈ sc.names, y.2 = .local → sc.names.lookup y.1 = some .local := by decide) (hxs : ∀ x ∈ ([("one" : Str), ("other" : Str)] : List Str), sc.names.lookup x = some .local := by decide)
    (hs : ∀ x, foldedSetIterable (.Call (.Name "zip" p7) [e1, e2] [] p8) env x = pure x := by intro _; rfl) :
    JN c env k (.ListComp (.BinOp (.Name "one" p1) op (.Name "other" p2) p3) [⟨.Tuple [.Name "one" p4, .Name "other" p5] kk p6, .Call (.Name "zip" p7) [e1, e2] [] p8, [], 0⟩] sc pos) rs := by
  refine JN_of_comp ?_
  rw [hrl]
  refine JR_comp (fun i _ _ y => ∃ t, y = .int (rs.getD i 0) t) [] o eo (Src_zip eo o free_zip h1 h2 hl (by decide) hs1 hs2 hpl hx) hlen (fun _ _ _ _ _ r _ => r) (fun i hi c' o' q1 _ _ _ _ eo' => ?_) (fun y sv e => nomatch e) (fun i y v e => by rw [hcl]; rfl) (by rw [hcl]; exact hclos) hcell hkind hnames hxs hs
  have hf3 : ∀ q, c'.cl.lookup q = none := fun q => by rw [q1, hcl]; rfl
  have h : J c' (compEnvC sc c.cl c'.L env) ⟨false, [("one", .i (ns.getD i 0)), ("other", .i (ms.getD i 0))], none⟩ (.BinOp (.Name "one" p1) op (.Name "other" p2) p3) (.i (f (ns.getD i 0) (ms.getD i 0))) :=
    J_bin (J_name eo' rfl (hk1 _ _) (hf3 _)) (J_name eo' rfl (hk2 _ _) (hf3 _)) (hop _ _ _)
  rw [hr i hi]
  exact h
end
section
variable {w : World} {mean : ExcName → Option Value} {mg mb : Str → Option Value} {n : Nat} (hn : 0 < n) (hn9 : n ≤ 1000) {X Y : Int} (hlX : (limbs (2 ^ n) X.natAbs).length ≤ 300) (hlY : (limbs (2 ^ n) Y.natAbs).length ≤ 300)
include hn hn9 hlX hlY
theorem fnc_joint : Fnc w mean mg mb 1 "joint_size" [sg n X, sg n Y] (.i ((max (limbs (2 ^ n) X.natAbs).length (limbs (2 ^ n) Y.natAbs).length + 1 : Nat) : Int)) := by
  refine' fnc_intro ["x", "y"] ?hf ?hbind ?hloc ?hnd ?hlen ?hcell ?c2 ?c3 ?c4 ?_
  ((case hf => exact rfl); (case hcell => decide); (case hloc => decide); (case hnd => decide); (case hlen => exact rfl); (case c2 => exact rfl); (case c3 => exact rfl); (case c4 => exact rfl))
  (case hbind => (intro s _ _ _ vals hl; obtain ⟨v1, v2, hv⟩ := len2 hl; subst hv; exact BindsTo.of_eq rfl))
  intro c _ _ o hcl eo
  have hf3 : ∀ q, c.cl.lookup q = none := fun q => by rw [hcl]; rfl
  refine B_ret (J_cast (J_bin (J_max eo o free_max (J_len eo o free_len (J_g1 (J_name eo rfl rfl (hf3 _))) (by first | (with_reducible assumption) | (with_reducible exact Nat.le_trans (by assumption) (by decide)) | (with_reducible exact b0 (by assumption)) | (with_reducible exact b1 (by assumption)) | (with_reducible exact b2 (by assumption)) | (with_reducible exact Int.le_of_lt (by assumption)) | (with_reducible exact Nat.le_of_lt (by assumption)) | (with_reducible exact Int.natCast_nonneg _) | (with_reducible exact Int.le_of_lt (Int.pow_pos (by decide))) | (with_reducible exact Int.pow_pos (by decide)) | (with_reducible exact Nat.lt_of_lt_of_le (by decide) (by assumption)) | (with_reducible exact Int.ne_of_gt (by assumption)) | lia | omega)) (J_len eo o free_len (J_g1 (J_name eo rfl rfl (hf3 _))) (by first | (with_reducible assumption) | (with_reducible exact Nat.le_trans (by assumption) (by decide)) | (with_reducible exact b0 (by assumption)) | (with_reducible exact b1 (by assumption)) | (with_reducible exact b2 (by assumption)) | (with_reducible exact Int.le_of_lt (by assumption)) | (with_reducible exact Nat.le_of_lt (by assumption)) | (with_reducible exact Int.natCast_nonneg _) | (with_reducible exact Int.le_of_lt (Int.pow_pos (by decide))) | (with_reducible exact Int.pow_pos (by decide)) | (with_reducible exact Nat.lt_of_lt_of_le (by decide) (by assumption)) | (with_reducible exact Int.ne_of_gt (by assumption)) | lia | omega))) J_int op_add) (congrArg SV.i ?_))
  rw [maxN]; rfl
theorem fit_join {op : Int → Int → Int} (hd : Dig op) (h2 : ∀ a b : Int, (a = 0 ∨ a = -1) → (b = 0 ∨ b = -1) → op a b = 0 ∨ op a b = -1) : Fit ((2 ^ n) ^ max (limbs (2 ^ n) X.natAbs).length (limbs (2 ^ n) Y.natAbs).length) (op X Y) := by
  have hB := bs_gt hn
  have h1 := fit_limbs hB (Nat.le_max_left (limbs (2 ^ n) X.natAbs).length (limbs (2 ^ n) Y.natAbs).length)
  have h3 := fit_limbs hB (Nat.le_max_right (limbs (2 ^ n) X.natAbs).length (limbs (2 ^ n) Y.natAbs).length)
  rw [pow_pow] at *
  exact fit_op hd h2 h1 h3
theorem fnc_s_and : Fnc w mean mg mb 4 "s_and" [sg n X, sg n Y, .i n] (sg n (Builtin.bitAnd X Y)) := by
  have hfit := fit_join hn hn9 hlX hlY dig_and two_and
  have hB := bs_gt hn
  refine' fnc_intro ["x", "y", "w"] ?hf ?hbind ?hloc ?hnd ?hlen ?hcell ?c2 ?c3 ?c4 ?_
  ((case hf => exact rfl); (case hcell => decide); (case hloc => decide); (case hnd => decide); (case hlen => exact rfl); (case c2 => exact rfl); (case c3 => exact rfl); (case c4 => exact rfl))
  (case hbind => (intro s _ _ _ vals hl; obtain ⟨v1, v2, v3, hv⟩ := len3 hl; subst hv; exact BindsTo.of_eq rfl))
  intro c _ _ o hcl eo
  have hf3 : ∀ q, c.cl.lookup q = none := fun q => by rw [hcl]; rfl
  have hm : max (limbs (2 ^ n) X.natAbs).length (limbs (2 ^ n) Y.natAbs).length ≤ 300 := by (first | lia | omega)
  have h1 := Nat.le_max_left (limbs (2 ^ n) X.natAbs).length (limbs (2 ^ n) Y.natAbs).length
  have h2 := Nat.le_max_right (limbs (2 ^ n) X.natAbs).length (limbs (2 ^ n) Y.natAbs).length
  refine B_asg eo (J_call eo o st_joint_size (Js_cons (J_name eo rfl rfl (hf3 _)) (Js_cons (J_name eo rfl rfl (hf3 _)) Js_nil)) (fnc_joint hn hn9 hlX hlY) (by decide)) (fun _ => rfl) (fun _ _ _ e => nomatch e) (hf3 _) ?_
  generalize max (limbs (2 ^ n) X.natAbs).length (limbs (2 ^ n) Y.natAbs).length = m at *
  refine B_ret (J_call eo o st_number_of (Js_cons (JN.j (JN_zipop (ns := row (2 ^ n) (m + 1) X) (ms := row (2 ^ n) (m + 1) Y) (rs := row (2 ^ n) (m + 1) (Builtin.bitAnd X Y)) (fun _ _ _ => op_and) o eo hcl (J_call eo o st_row_of (Js_cons (J_name eo rfl rfl (hf3 _)) (Js_cons (J_name eo rfl rfl (hf3 _)) (Js_cons (J_name eo rfl rfl (hf3 _)) Js_nil))) (fnc_row_of hn hn9 (by first | (with_reducible assumption) | (with_reducible exact Nat.le_trans (by assumption) (by decide)) | (with_reducible exact b0 (by assumption)) | (with_reducible exact b1 (by assumption)) | (with_reducible exact b2 (by assumption)) | (with_reducible exact Int.le_of_lt (by assumption)) | (with_reducible exact Nat.le_of_lt (by assumption)) | (with_reducible exact Int.natCast_nonneg _) | (with_reducible exact Int.le_of_lt (Int.pow_pos (by decide))) | (with_reducible exact Int.pow_pos (by decide)) | (with_reducible exact Nat.lt_of_lt_of_le (by decide) (by assumption)) | (with_reducible exact Int.ne_of_gt (by assumption)) | lia | omega) (by first | (with_reducible assumption) | (with_reducible exact Nat.le_trans (by assumption) (by decide)) | (with_reducible exact b0 (by assumption)) | (with_reducible exact b1 (by assumption)) | (with_reducible exact b2 (by assumption)) | (with_reducible exact Int.le_of_lt (by assumption)) | (with_reducible exact Nat.le_of_lt (by assumption)) | (with_reducible exact Int.natCast_nonneg _) | (with_reducible exact Int.le_of_lt (Int.pow_pos (by decide))) | (with_reducible exact Int.pow_pos (by decide)) | (with_reducible exact Nat.lt_of_lt_of_le (by decide) (by assumption)) | (with_reducible exact Int.ne_of_gt (by assumption)) | lia | omega)) (by decide)) (J_call eo o st_row_of (Js_cons (J_name eo rfl rfl (hf3 _)) (Js_cons (J_name eo rfl rfl (hf3 _)) (Js_cons (J_name eo rfl rfl (hf3 _)) Js_nil))) (fnc_row_of hn hn9 (by first | (with_reducible assumption) | (with_reducible exact Nat.le_trans (by assumption) (by decide)) | (with_reducible exact b0 (by assumption)) | (with_reducible exact b1 (by assumption)) | (with_reducible exact b2 (by assumption)) | (with_reducible exact Int.le_of_lt (by assumption)) | (with_reducible exact Nat.le_of_lt (by assumption)) | (with_reducible exact Int.natCast_nonneg _) | (with_reducible exact Int.le_of_lt (Int.pow_pos (by decide))) | (with_reducible exact Int.pow_pos (by decide)) | (with_reducible exact Nat.lt_of_lt_of_le (by decide) (by assumption)) | (with_reducible exact Int.ne_of_gt (by assumption)) | lia | omega) (by first | (with_reducible assumption) | (with_reducible exact Nat.le_trans (by assumption) (by decide)) | (with_reducible exact b0 (by assumption)) | (with_reducible exact b1 (by assumption)) | (with_reducible exact b2 (by assumption)) | (with_reducible exact Int.le_of_lt (by assumption)) | (with_reducible exact Nat.le_of_lt (by assumption)) | (with_reducible exact Int.natCast_nonneg _) | (with_reducible exact Int.le_of_lt (Int.pow_pos (by decide))) | (with_reducible exact Int.pow_pos (by decide)) | (with_reducible exact Nat.lt_of_lt_of_le (by decide) (by assumption)) | (with_reducible exact Int.ne_of_gt (by assumption)) | lia | omega)) (by decide)) ?_ ?_ ?_ fun i hi => ?_)) (Js_cons (J_name eo rfl rfl (hf3 _)) Js_nil)) (fnc_number_of hn hn9 hfit hm) (by decide))
  · rw [row_length, row_length]
  · rw [row_length]; (first | lia | omega)
  · rw [row_length, row_length]
  · rw [row_length] at hi; exact row_op dig_and hB X Y hi
theorem fnc_s_or : Fnc w mean mg mb 4 "s_or" [sg n X, sg n Y, .i n] (sg n (Builtin.bitOr X Y)) := by
  have hfit := fit_join hn hn9 hlX hlY dig_or two_or
  have hB := bs_gt hn
  refine' fnc_intro ["x", "y", "w"] ?hf ?hbind ?hloc ?hnd ?hlen ?hcell ?c2 ?c3 ?c4 ?_
  ((case hf => exact rfl); (case hcell => decide); (case hloc => decide); (case hnd => decide); (case hlen => exact rfl); (case c2 => exact rfl); (case c3 => exact rfl); (case c4 => exact rfl))
  (case hbind => (intro s _ _ _ vals hl; obtain ⟨v1, v2, v3, hv⟩ := len3 hl; subst hv; exact BindsTo.of_eq rfl))
  intro c _ _ o hcl eo
  have hf3 : ∀ q, c.cl.lookup q = none := fun q => by rw [hcl]; rfl
  have hm : max (limbs (2 ^ n) X.natAbs).length (limbs (2 ^ n) Y.natAbs).length ≤ 300 := by (first | lia | omega)
  have h1 := Nat.le_max_left (limbs (2 ^ n) X.natAbs).length (limbs (2 ^ n) Y.natAbs).length
  have h2 := Nat.le_max_right (limbs (2 ^ n) X.natAbs).length (limbs (2 ^ n) Y.natAbs).length
  refine B_asg eo (J_call eo o st_joint_size (Js_cons (J_name eo rfl rfl (hf3 _)) (Js_cons (J_name eo rfl rfl (hf3 _)) Js_nil)) (fnc_joint hn hn9 hlX hlY) (by decide)) (fun _ => rfl) (fun _ _ _ e => nomatch e) (hf3 _) ?_
  generalize max (limbs (2 ^ n) X.natAbs).length (limbs (2 ^ n) Y.natAbs).length = m at *
  refine B_ret (J_call eo o st_number_of (Js_cons (JN.j (JN_zipop (ns := row (2 ^ n) (m + 1) X) (ms := row (2 ^ n) (m + 1) Y) (rs := row (2 ^ n) (m + 1) (Builtin.bitOr X Y)) (fun _ _ _ => op_or) o eo hcl (J_call eo o st_row_of (Js_cons (J_name eo rfl rfl (hf3 _)) (Js_cons (J_name eo rfl rfl (hf3 _)) (Js_cons (J_name eo rfl rfl (hf3 _)) Js_nil))) (fnc_row_of hn hn9 (by first | (with_reducible assumption) | (with_reducible exact Nat.le_trans (by assumption) (by decide)) | (with_reducible exact b0 (by assumption)) | (with_reducible exact b1 (by assumption)) | (with_reducible exact b2 (by assumption)) | (with_reducible exact Int.le_of_lt (by assumption)) | (with_reducible exact Nat.le_of_lt (by assumption)) | (with_reducible exact Int.natCast_nonneg _) | (with_reducible exact Int.le_of_lt (Int.pow_pos (by decide))) | (with_reducible exact Int.pow_pos (by decide)) | (with_reducible exact Nat.lt_of_lt_of_le (by decide) (by assumption)) | (with_reducible exact Int.ne_of_gt (by assumption)) | lia | omega) (by first | (with_reducible assumption) | (with_reducible exact Nat.le_trans (by assumption) (by decide)) | (with_reducible exact b0 (by assumption)) | (with_reducible exact b1 (by assumption)) | (with_reducible exact b2 (by assumption)) | (with_reducible exact Int.le_of_lt (by assumption)) | (with_reducible exact Nat.le_of_lt (by assumption)) | (with_reducible exact Int.natCast_nonneg _) | (with_reducible exact Int.le_of_lt (Int.pow_pos (by decide))) | (with_reducible exact Int.pow_pos (by decide)) | (with_reducible exact Nat.lt_of_lt_of_le (by decide) (by assumption)) | (with_reducible exact Int.ne_of_gt (by assumption)) | lia | omega)) (by decide)) (J_call eo o st_row_of (Js_cons (J_name eo rfl rfl (hf3 _)) (Js_cons (J_name eo rfl rfl (hf3 _)) (Js_cons (J_name eo rfl rfl (hf3 _)) Js_nil))) (fnc_row_of hn hn9 (by first | (with_reducible assumption) | (with_reducible exact Nat.le_trans (by assumption) (by decide)) | (with_reducible exact b0 (by assumption)) | (with_reducible exact b1 (by assumption)) | (with_reducible exact b2 (by assumption)) | (with_reducible exact Int.le_of_lt (by assumption)) | (with_reducible exact Nat.le_of_lt (by assumption)) | (with_reducible exact Int.natCast_nonneg _) | (with_reducible exact Int.le_of_lt (Int.pow_pos (by decide))) | (with_reducible exact Int.pow_pos (by decide)) | (with_reducible exact Nat.lt_of_lt_of_le (by decide) (by assumption)) | (with_reducible exact Int.ne_of_gt (by assumption)) | lia | omega) (by first | (with_reducible assumption) | (with_reducible exact Nat.le_trans (by assumption) (by decide)) | (with_reducible exact b0 (by assumption)) | (with_reducible exact b1 (by assumption)) | (with_reducible exact b2 (by assumption)) | (with_reducible exact Int.le_of_lt (by assumption)) | (with_reducible exact Nat.le_of_lt (by assumption)) | (with_reducible exact Int.natCast_nonneg _) | (with_reducible exact Int.le_of_lt (Int.pow_pos (by decide))) | (with_reducible exact Int.pow_pos (by decide)) | (with_reducible exact Nat.lt_of_lt_of_le (by decide) (by assumption)) | (with_reducible exact Int.ne_of_gt (by assumption)) | lia | omega)) (by decide)) ?_ ?_ ?_ fun i hi => ?_)) (Js_cons (J_name eo rfl rfl (hf3 _)) Js_nil)) (fnc_number_of hn hn9 hfit hm) (by decide))
  · rw [row_length, row_length]
  · rw [row_length]; (first | lia | omega)
  · rw [row_length, row_length]
  · rw [row_length] at hi; exact row_op dig_or hB X Y hi
theorem fnc_s_xor : Fnc w mean mg mb 4 "s_xor" [sg n X, sg n Y, .i n] (sg n (Builtin.bitXor X Y)) := by
  have hfit := fit_join hn hn9 hlX hlY dig_xor two_xor
  have hB := bs_gt hn
  refine' fnc_intro ["x", "y", "w"] ?hf ?hbind ?hloc ?hnd ?hlen ?hcell ?c2 ?c3 ?c4 ?_
  ((case hf => exact rfl); (case hcell => decide); (case hloc => decide); (case hnd => decide); (case hlen => exact rfl); (case c2 => exact rfl); (case c3 => exact rfl); (case c4 => exact rfl))
  (case hbind => (intro s _ _ _ vals hl; obtain ⟨v1, v2, v3, hv⟩ := len3 hl; subst hv; exact BindsTo.of_eq rfl))
  intro c _ _ o hcl eo
  have hf3 : ∀ q, c.cl.lookup q = none := fun q => by rw [hcl]; rfl
  have hm : max (limbs (2 ^ n) X.natAbs).length (limbs (2 ^ n) Y.natAbs).length ≤ 300 := by (first | lia | omega)
  have h1 := Nat.le_max_left (limbs (2 ^ n) X.natAbs).length (limbs (2 ^ n) Y.natAbs).length
  have h2 := Nat.le_max_right (limbs (2 ^ n) X.natAbs).length (limbs (2 ^ n) Y.natAbs).length
  refine B_asg eo (J_call eo o st_joint_size (Js_cons (J_name eo rfl rfl (hf3 _)) (Js_cons (J_name eo rfl rfl (hf3 _)) Js_nil)) (fnc_joint hn hn9 hlX hlY) (by decide)) (fun _ => rfl) (fun _ _ _ e => nomatch e) (hf3 _) ?_
  generalize max (limbs (2 ^ n) X.natAbs).length (limbs (2 ^ n) Y.natAbs).length = m at *
  refine B_ret (J_call eo o st_number_of (Js_cons (JN.j (JN_zipop (ns := row (2 ^ n) (m + 1) X) (ms := row (2 ^ n) (m + 1) Y) (rs := row (2 ^ n) (m + 1) (Builtin.bitXor X Y)) (fun _ _ _ => op_xor) o eo hcl (J_call eo o st_row_of (Js_cons (J_name eo rfl rfl (hf3 _)) (Js_cons (J_name eo rfl rfl (hf3 _)) (Js_cons (J_name eo rfl rfl (hf3 _)) Js_nil))) (fnc_row_of hn hn9 (by first | (with_reducible assumption) | (with_reducible exact Nat.le_trans (by assumption) (by decide)) | (with_reducible exact b0 (by assumption)) | (with_reducible exact b1 (by assumption)) | (with_reducible exact b2 (by assumption)) | (with_reducible exact Int.le_of_lt (by assumption)) | (with_reducible exact Nat.le_of_lt (by assumption)) | (with_reducible exact Int.natCast_nonneg _) | (with_reducible exact Int.le_of_lt (Int.pow_pos (by decide))) | (with_reducible exact Int.pow_pos (by decide)) | (with_reducible exact Nat.lt_of_lt_of_le (by decide) (by assumption)) | (with_reducible exact Int.ne_of_gt (by assumption)) | lia | omega) (by first | (with_reducible assumption) | (with_reducible exact Nat.le_trans (by assumption) (by decide)) | (with_reducible exact b0 (by assumption)) | (with_reducible exact b1 (by assumption)) | (with_reducible exact b2 (by assumption)) | (with_reducible exact Int.le_of_lt (by assumption)) | (with_reducible exact Nat.le_of_lt (by assumption)) | (with_reducible exact Int.natCast_nonneg _) | (with_reducible exact Int.le_of_lt (Int.pow_pos (by decide))) | (with_reducible exact Int.pow_pos (by decide)) | (with_reducible exact Nat.lt_of_lt_of_le (by decide) (by assumption)) | (with_reducible exact Int.ne_of_gt (by assumption)) | lia | omega)) (by decide)) (J_call eo o st_row_of (Js_cons (J_name eo rfl rfl (hf3 _)) (Js_cons (J_name eo rfl rfl (hf3 _)) (Js_cons (J_name eo rfl rfl (hf3 _)) Js_nil))) (fnc_row_of hn hn9 (by first | (with_reducible assumption) | (with_reducible exact Nat.le_trans (by assumption) (by decide)) | (with_reducible exact b0 (by assumption)) | (with_reducible exact b1 (by assumption)) | (with_reducible exact b2 (by assumption)) | (with_reducible exact Int.le_of_lt (by assumption)) | (with_reducible exact Nat.le_of_lt (by assumption)) | (with_reducible exact Int.natCast_nonneg _) | (with_reducible exact Int.le_of_lt (Int.pow_pos (by decide))) | (with_reducible exact Int.pow_pos (by decide)) | (with_reducible exact Nat.lt_of_lt_of_le (by decide) (by assumption)) | (with_reducible exact Int.ne_of_gt (by assumption)) | lia | omega) (by first | (with_reducible assumption) | (with_reducible exact Nat.le_trans (by assumption) (by decide)) | (with_reducible exact b0 (by assumption)) | (with_reducible exact b1 (by assumption)) | (with_reducible exact b2 (by assumption)) | (with_reducible exact Int.le_of_lt (by assumption)) | (with_reducible exact Nat.le_of_lt (by assumption)) | (with_reducible exact Int.natCast_nonneg _) | (with_reducible exact Int.le_of_lt (Int.pow_pos (by decide))) | (with_reducible exact Int.pow_pos (by decide)) | (with_reducible exact Nat.lt_of_lt_of_le (by decide) (by assumption)) | (with_reducible exact Int.ne_of_gt (by assumption)) | lia | omega)) (by decide)) ?_ ?_ ?_ fun i hi => ?_)) (Js_cons (J_name eo rfl rfl (hf3 _)) Js_nil)) (fnc_number_of hn hn9 hfit hm) (by decide))
  · rw [row_length, row_length]
  · rw [row_length]; (first | lia | omega)
  · rw [row_length, row_length]
  · rw [row_length] at hi; exact row_op dig_xor hB X Y hi
end

theorem op_modP {c : Cx} {a b : Int} (hb : 0 < b) : Op c (binaryOp .Mod) (.i a) (.i b) (.i (a % b)) := by
  have h : Op c (binaryOp .Mod) (.i a) (.i b) (.i (a.fmod b)) := op_mod (by first | (with_reducible assumption) | (with_reducible exact Nat.le_trans (by assumption) (by decide)) | (with_reducible exact b0 (by assumption)) | (with_reducible exact b1 (by assumption)) | (with_reducible exact b2 (by assumption)) | (with_reducible exact Int.le_of_lt (by assumption)) | (with_reducible exact Nat.le_of_lt (by assumption)) | (with_reducible exact Int.natCast_nonneg _) | (with_reducible exact Int.le_of_lt (Int.pow_pos (by decide))) | (with_reducible exact Int.pow_pos (by decide)) | (with_reducible exact Nat.lt_of_lt_of_le (by decide) (by assumption)) | (with_reducible exact Int.ne_of_gt (by assumption)) | lia | omega)
  rwa [Int.fmod_eq_emod_of_nonneg _ (by first | (with_reducible assumption) | (with_reducible exact Nat.le_trans (by assumption) (by decide)) | (with_reducible exact b0 (by assumption)) | (with_reducible exact b1 (by assumption)) | (with_reducible exact b2 (by assumption)) | (with_reducible exact Int.le_of_lt (by assumption)) | (with_reducible exact Nat.le_of_lt (by assumption)) | (with_reducible exact Int.natCast_nonneg _) | (with_reducible exact Int.le_of_lt (Int.pow_pos (by decide))) | (with_reducible exact Int.pow_pos (by decide)) | (with_reducible exact Nat.lt_of_lt_of_le (by decide) (by assumption)) | (with_reducible exact Int.ne_of_gt (by assumption)) | lia | omega)] at h
theorem op_divP {c : Cx} {a b : Int} (hb : 0 < b) (hb2 : b < 1000000) : Op c (binaryOp .FloorDiv) (.i a) (.i b) (.i (a / b)) := by
  have h : Op c (binaryOp .FloorDiv) (.i a) (.i b) (.i (a.fdiv b)) := op_div (by first | (with_reducible assumption) | (with_reducible exact Nat.le_trans (by assumption) (by decide)) | (with_reducible exact b0 (by assumption)) | (with_reducible exact b1 (by assumption)) | (with_reducible exact b2 (by assumption)) | (with_reducible exact Int.le_of_lt (by assumption)) | (with_reducible exact Nat.le_of_lt (by assumption)) | (with_reducible exact Int.natCast_nonneg _) | (with_reducible exact Int.le_of_lt (Int.pow_pos (by decide))) | (with_reducible exact Int.pow_pos (by decide)) | (with_reducible exact Nat.lt_of_lt_of_le (by decide) (by assumption)) | (with_reducible exact Int.ne_of_gt (by assumption)) | lia | omega) (PyProof.noPylong_small (by first | (with_reducible assumption) | (with_reducible exact Nat.le_trans (by assumption) (by decide)) | (with_reducible exact b0 (by assumption)) | (with_reducible exact b1 (by assumption)) | (with_reducible exact b2 (by assumption)) | (with_reducible exact Int.le_of_lt (by assumption)) | (with_reducible exact Nat.le_of_lt (by assumption)) | (with_reducible exact Int.natCast_nonneg _) | (with_reducible exact Int.le_of_lt (Int.pow_pos (by decide))) | (with_reducible exact Int.pow_pos (by decide)) | (with_reducible exact Nat.lt_of_lt_of_le (by decide) (by assumption)) | (with_reducible exact Int.ne_of_gt (by assumption)) | lia | omega))
  rwa [Int.fdiv_eq_ediv_of_nonneg _ (by first | (with_reducible assumption) | (with_reducible exact Nat.le_trans (by assumption) (by decide)) | (with_reducible exact b0 (by assumption)) | (with_reducible exact b1 (by assumption)) | (with_reducible exact b2 (by assumption)) | (with_reducible exact Int.le_of_lt (by assumption)) | (with_reducible exact Nat.le_of_lt (by assumption)) | (with_reducible exact Int.natCast_nonneg _) | (with_reducible exact Int.le_of_lt (Int.pow_pos (by decide))) | (with_reducible exact Int.pow_pos (by decide)) | (with_reducible exact Nat.lt_of_lt_of_le (by decide) (by assumption)) | (with_reducible exact Int.ne_of_gt (by assumption)) | lia | omega)] at h
section
variable {w : World} {mean : ExcName → Option Value} {mg mb : Str → Option Value}
theorem fnc_law_ones {x : Int} (hx : 0 ≤ x) : Fnc w mean mg mb 1 "_law_ones" [.i x] (.i (pop x)) := by
  refine' fnc_intro ["number"] ?hf ?hbind ?hloc ?hnd ?hlen ?hcell ?c2 ?c3 ?c4 ?_
  ((case hf => exact rfl); (case hcell => decide); (case hloc => decide); (case hnd => decide); (case hlen => exact rfl); (case c2 => exact rfl); (case c3 => exact rfl); (case c4 => exact rfl))
  (case hbind => (intro s _ _ _ vals hl; obtain ⟨v1, hv⟩ := List.length_eq_one_iff.mp hl; subst hv; exact BindsTo.of_eq rfl))
  intro c _ _ o hcl eo
  have hf3 : ∀ q, c.cl.lookup q = none := fun q => by rw [hcl]; rfl
  refine B_asg eo J_int (fun _ => rfl) (fun _ _ _ e => nomatch e) (hf3 _) ?_
  refine B_while (σ := Int × Int) (fun y => 0 ≤ y.1 ∧ y.2 + pop y.1 = pop x) (fun y => ⟨true, [("number", .i y.1), ("found", .i y.2)], none⟩) (fun y => decide (0 < y.1)) (fun y => (y.1 / 2, y.2 + y.1 % 2)) (fun y => y.1.toNat) (x, 0) ⟨hx, by dsimp only; (first | lia | omega)⟩ (fun h K => K.sub ⟨rfl, rfl, trivial⟩) (fun _ => rfl) (fun y hy => ?_) (fun y hy hb => ?_) (fun y hy hb => ?_)
  · (repeat' (first | with_reducible exact J_int | exact J_name eo rfl rfl (hf3 _) | with_reducible refine J_bin ?_ ?_ op_add | with_reducible refine J_bin ?_ ?_ op_sub | with_reducible exact J_none | with_reducible exact J_bool | with_reducible refine J_bin ?_ ?_ op_and | with_reducible refine J_bin ?_ ?_ op_or | with_reducible refine J_bin ?_ ?_ op_xor | with_reducible refine JT_cmp ?_ ?_ op_lt | with_reducible refine JT_cmp ?_ ?_ op_gt | with_reducible refine JT_cmp ?_ ?_ op_eq | with_reducible refine JT_cmp ?_ ?_ op_ne))
  · have hb := of_decide_eq_true hb
    have e := pop_step hy.1
    refine ⟨?_, ⟨by dsimp only; (first | lia | omega), by dsimp only; rw [← hy.2, e, Int.add_assoc]⟩, by dsimp only; (first | lia | omega)⟩
    refine B_asg (sv := .i (y.2 + y.1 % 2)) eo (J_bin (J_name eo rfl rfl (hf3 _)) (J_bin (J_name eo rfl rfl (hf3 _)) J_int (op_modP (by decide))) op_add) (fun _ => rfl) (fun _ _ _ e => nomatch e) (hf3 _) ?_
    refine B_asg (sv := .i (y.1 / 2)) eo (J_bin (J_name eo rfl rfl (hf3 _)) J_int (op_divP (by decide) (by decide))) (fun _ => rfl) (fun _ _ _ e => nomatch e) (hf3 _) ?_
    exact B_end ⟨rfl, rfl, trivial⟩
  · have hb := of_decide_eq_false hb
    have e := pop_neg (x := y.1) (by first | (with_reducible assumption) | (with_reducible exact Nat.le_trans (by assumption) (by decide)) | (with_reducible exact b0 (by assumption)) | (with_reducible exact b1 (by assumption)) | (with_reducible exact b2 (by assumption)) | (with_reducible exact Int.le_of_lt (by assumption)) | (with_reducible exact Nat.le_of_lt (by assumption)) | (with_reducible exact Int.natCast_nonneg _) | (with_reducible exact Int.le_of_lt (Int.pow_pos (by decide))) | (with_reducible exact Int.pow_pos (by decide)) | (with_reducible exact Nat.lt_of_lt_of_le (by decide) (by assumption)) | (with_reducible exact Int.ne_of_gt (by assumption)) | lia | omega)
    rw [show pop x = y.2 by (first | lia | omega)]
    exact B_ret (J_name eo rfl rfl (hf3 _))
variable {n : Nat} (hn : 0 < n) (hn9 : n ≤ 1000) {X Y : Int}
include hn
theorem fnc_nat_ones (hl : (limbs (2 ^ n) X).length ≤ 1000) : Fnc w mean mg mb 2 "nat_ones" [.l (limbs (2 ^ n) X)] (.i (pop X)) := by
  have hB := bs_gt hn
  refine' fnc_intro ["a"] ?hf ?hbind ?hloc ?hnd ?hlen ?hcell ?c2 ?c3 ?c4 ?_
  ((case hf => exact rfl); (case hcell => decide); (case hloc => decide); (case hnd => decide); (case hlen => exact rfl); (case c2 => exact rfl); (case c3 => exact rfl); (case c4 => exact rfl))
  (case hbind => (intro s _ _ _ vals hl; obtain ⟨v1, hv⟩ := List.length_eq_one_iff.mp hl; subst hv; exact BindsTo.of_eq rfl))
  intro c _ _ o hcl eo
  have hf3 : ∀ q, c.cl.lookup q = none := fun q => by rw [hcl]; rfl
  rw [← pop_limbs hB _ (Nat.lt_succ_self _)]
  refine B_ret (J_sum eo o free_sum (JN.j (JN_of_comp ?_)))
  rw [List.length_map]
  refine JR_comp (fun i _ _ y => ∃ t, y = .int (((limbs (2 ^ n) X).map pop).getD i 0) t) [] o eo (Src_list (J_name eo rfl rfl (hf3 _))) hl (fun _ _ _ _ _ r _ => r) (fun i hi c' o' q1 _ _ _ _ eo' => ?_) (fun y sv e => nomatch e) (fun i y v e => hf3 y) (by rw [hcl]; rfl)
  have e : ((limbs (2 ^ n) X).map pop).getD i 0 = pop ((limbs (2 ^ n) X).getD i 0) := by simp [List.getD_eq_getElem?_getD, hi]
  rw [e]
  exact J_call (sv := .i (pop ((limbs (2 ^ n) X).getD i 0))) eo' o' st_limb_ones (Js_cons (J_name eo' rfl rfl (by rw [q1]; exact hf3 _)) Js_nil) (fnc_limb_ones (Lim.getD hB (lim_limbs hB X) i).1) (by decide)
theorem fnc_count_ones (hl : (limbs (2 ^ n) X.natAbs).length ≤ 1000) : Fnc w mean mg mb 3 "count_ones" [sg n X] (so (if X < 0 then none else some (pop X))) := by
  refine' fnc_intro ["x"] ?hf ?hbind ?hloc ?hnd ?hlen ?hcell ?c2 ?c3 ?c4 ?_
  ((case hf => exact rfl); (case hcell => decide); (case hloc => decide); (case hnd => decide); (case hlen => exact rfl); (case c2 => exact rfl); (case c3 => exact rfl); (case c4 => exact rfl))
  (case hbind => (intro s _ _ _ vals hl; obtain ⟨v1, hv⟩ := List.length_eq_one_iff.mp hl; subst hv; exact BindsTo.of_eq rfl))
  intro c _ _ o hcl eo
  have hf3 : ∀ q, c.cl.lookup q = none := fun q => by rw [hcl]; rfl
  refine B_ret (J_if (JT_plain (J_g0 (J_name eo rfl rfl (hf3 _)))) (fun hb => ?_) (fun hb => ?_))
  · rw [if_pos (of_decide_eq_true hb)]; exact J_none
  · have h0 := of_decide_eq_false hb
    rw [if_neg h0]
    refine J_cast (J_call eo o st_nat_ones (Js_cons (J_g1 (J_name eo rfl rfl (hf3 _))) Js_nil) (fnc_nat_ones hn hl) (by decide)) ?_
    rw [show (X.natAbs : Int) = X by (first | lia | omega)]; rfl
include hn9
theorem fnc_distance (hlX : (limbs (2 ^ n) X.natAbs).length ≤ 300) (hlY : (limbs (2 ^ n) Y.natAbs).length ≤ 300) : Fnc w mean mg mb 5 "distance" [sg n X, sg n Y, .i n] (so (if decide (X < 0) != decide (Y < 0) then none else some (pop (Builtin.bitXor X Y)))) := by
  have hB := bs_gt hn
  have hfit := fit_join hn hn9 hlX hlY dig_xor two_xor
  refine' fnc_intro ["x", "y", "w"] ?hf ?hbind ?hloc ?hnd ?hlen ?hcell ?c2 ?c3 ?c4 ?_
  ((case hf => exact rfl); (case hcell => decide); (case hloc => decide); (case hnd => decide); (case hlen => exact rfl); (case c2 => exact rfl); (case c3 => exact rfl); (case c4 => exact rfl))
  (case hbind => (intro s _ _ _ vals hl; obtain ⟨v1, v2, v3, hv⟩ := len3 hl; subst hv; exact BindsTo.of_eq rfl))
  intro c _ _ o hcl eo
  have hf3 : ∀ q, c.cl.lookup q = none := fun q => by rw [hcl]; rfl
  refine B_ifret (JT_cmp (J_g0 (J_name eo rfl rfl (hf3 _))) (J_g0 (J_name eo rfl rfl (hf3 _))) op_neb) (fun hb => ?_) (fun hb => ?_)
  · rw [if_pos hb]; exact B_ret J_none
  · rw [if_neg (by rw [hb]; decide)]
    have h0 := xor_sign (X := X) (Y := Y) (by
      have : decide (X < 0) = decide (Y < 0) := by simpa using hb
      simpa using this)
    have hl : (limbs (2 ^ n) (Builtin.bitXor X Y).natAbs).length ≤ 1000 := by
      have := limbs_len_le hB (X := (Builtin.bitXor X Y).natAbs) (n := max (limbs (2 ^ n) X.natAbs).length (limbs (2 ^ n) Y.natAbs).length) (by rw [show ((Builtin.bitXor X Y).natAbs : Int) = Builtin.bitXor X Y by (first | lia | omega)]; exact hfit.2)
      (first | lia | omega)
    refine B_ret (J_cast (J_call eo o st_nat_ones (Js_cons (J_g1 (J_call eo o st_s_xor (Js_cons (J_name eo rfl rfl (hf3 _)) (Js_cons (J_name eo rfl rfl (hf3 _)) (Js_cons (J_name eo rfl rfl (hf3 _)) Js_nil))) (fnc_s_xor hn hn9 hlX hlY) (by decide))) Js_nil) (fnc_nat_ones hn hl) (by decide)) ?_)
    rw [show ((Builtin.bitXor X Y).natAbs : Int) = Builtin.bitXor X Y by (first | lia | omega)]; rfl
end

theorem bits_small {a : Int} (h : a.natAbs < 2 ^ 60) : Builtin.Int.intBits a ≤ 64 := by
  unfold Builtin.Int.intBits
  split
  · exact Nat.zero_le _
  · rename_i hne
    have := (Nat.log2_lt (n := a.natAbs) (k := 60) (by simpa using hne)).mpr h
    lia
theorem B_hit {c : Cx} {env : Env} {k k' : Know} {res : Heap → Value → Prop} {t : Expr} {body : List Stmt} {pos : Pos} {b P : Prop} [Decidable b] (ht : JT c env k t (decide b)) (h1 : b → B c env k body none res) (h2 : ¬ b → P) (h3 : B c env k [] (some k') res) :
    (P ∧ B c env k [.If t body [] pos] (some k') res) ∨ B c env k [.If t body [] pos] none res := by
  by_cases q : b
  · exact .inr (B_ifret ht (fun _ => h1 q) fun e => absurd q (of_decide_eq_false e))
  · exact .inl ⟨h2 q, B_ifret ht (fun e => absurd (of_decide_eq_true e) q) fun _ => h3⟩
section
variable {w : World} {mean : ExcName → Option Value} {mg mb : Str → Option Value} {n : Nat} (hn : 0 < n) (hn9 : n ≤ 100) {X : Int} (hl : (limbs (2 ^ n) X.natAbs).length ≤ 300) {N : Nat} (hN : N ≤ 4000) {b : Nat} {r : Option Nat} (hr : IsFirst X N b r)
include hn hn9 hl hN hr
theorem fnc_scan_for : Fnc w mean mg mb 4 "scan_for" [sg n X, .i N, .i b, .i n] (so (r.map Int.ofNat)) := by
  have hB := bs_gt hn
  generalize hL : (limbs (2 ^ n) X.natAbs).length = L at hl
  have hfit : Fit (2 ^ ((L + 1) * n)) X := by
    have := fit_limbs hB (X := X) (m := L + 1) (by first | (with_reducible assumption) | (with_reducible exact Nat.le_trans (by assumption) (by decide)) | (with_reducible exact b0 (by assumption)) | (with_reducible exact b1 (by assumption)) | (with_reducible exact b2 (by assumption)) | (with_reducible exact Int.le_of_lt (by assumption)) | (with_reducible exact Nat.le_of_lt (by assumption)) | (with_reducible exact Int.natCast_nonneg _) | (with_reducible exact Int.le_of_lt (Int.pow_pos (by decide))) | (with_reducible exact Int.pow_pos (by decide)) | (with_reducible exact Nat.lt_of_lt_of_le (by decide) (by assumption)) | (with_reducible exact Int.ne_of_gt (by assumption)) | lia)
    rwa [pow_pow, Nat.mul_comm] at this
  have hLn : (L + 1) * n ≤ 301 * 100 := Nat.mul_le_mul (by first | (with_reducible assumption) | (with_reducible exact Nat.le_trans (by assumption) (by decide)) | (with_reducible exact b0 (by assumption)) | (with_reducible exact b1 (by assumption)) | (with_reducible exact b2 (by assumption)) | (with_reducible exact Int.le_of_lt (by assumption)) | (with_reducible exact Nat.le_of_lt (by assumption)) | (with_reducible exact Int.natCast_nonneg _) | (with_reducible exact Int.le_of_lt (Int.pow_pos (by decide))) | (with_reducible exact Int.pow_pos (by decide)) | (with_reducible exact Nat.lt_of_lt_of_le (by decide) (by assumption)) | (with_reducible exact Int.ne_of_gt (by assumption)) | lia) hn9
  refine' fnc_intro ["x", "start", "wanted", "w"] ?hf ?hbind ?hloc ?hnd ?hlen ?hcell ?c2 ?c3 ?c4 ?_
  ((case hf => exact rfl); (case hcell => decide); (case hloc => decide); (case hnd => decide); (case hlen => exact rfl); (case c2 => exact rfl); (case c3 => exact rfl); (case c4 => exact rfl))
  (case hbind => (intro s _ _ _ vals hl; obtain ⟨v1, v2, v3, v4, hv⟩ := len4 hl; subst hv; exact BindsTo.of_eq rfl))
  intro c _ _ o hcl eo
  have hf3 : ∀ q, c.cl.lookup q = none := fun q => by rw [hcl]; rfl
  have hmul : IntMulOk ((L : Int) + 1) n := .of_left (bits_small (by first | (with_reducible assumption) | (with_reducible exact Nat.le_trans (by assumption) (by decide)) | (with_reducible exact b0 (by assumption)) | (with_reducible exact b1 (by assumption)) | (with_reducible exact b2 (by assumption)) | (with_reducible exact Int.le_of_lt (by assumption)) | (with_reducible exact Nat.le_of_lt (by assumption)) | (with_reducible exact Int.natCast_nonneg _) | (with_reducible exact Int.le_of_lt (Int.pow_pos (by decide))) | (with_reducible exact Int.pow_pos (by decide)) | (with_reducible exact Nat.lt_of_lt_of_le (by decide) (by assumption)) | (with_reducible exact Int.ne_of_gt (by assumption)) | lia))
  have emul : ((L : Int) + 1) * n = (((L + 1) * n : Nat) : Int) := by rw [Int.natCast_mul]; rfl
  refine B_unst (B_asg (sv := .i ((L : Int) + 1)) eo (J_bin (J_cast (J_len eo o free_len (J_g1 (J_name eo rfl rfl (hf3 _))) (by first | (with_reducible assumption) | (with_reducible exact Nat.le_trans (by assumption) (by decide)) | (with_reducible exact b0 (by assumption)) | (with_reducible exact b1 (by assumption)) | (with_reducible exact b2 (by assumption)) | (with_reducible exact Int.le_of_lt (by assumption)) | (with_reducible exact Nat.le_of_lt (by assumption)) | (with_reducible exact Int.natCast_nonneg _) | (with_reducible exact Int.le_of_lt (Int.pow_pos (by decide))) | (with_reducible exact Int.pow_pos (by decide)) | (with_reducible exact Nat.lt_of_lt_of_le (by decide) (by assumption)) | (with_reducible exact Int.ne_of_gt (by assumption)) | lia)) (congrArg SV.i (by rw [hL]))) J_int op_add) (fun _ => rfl) (fun _ _ _ e => nomatch e) (hf3 _) ?_)
  refine B_asg (sv := .l (row (2 ^ n) (L + 1) X)) eo (J_call eo o st_row_of (Js_cons (J_name eo rfl rfl (hf3 _)) (Js_cons (J_name eo rfl rfl (hf3 _)) (Js_cons (J_name eo rfl rfl (hf3 _)) Js_nil))) (fnc_row_of hn (by first | (with_reducible assumption) | (with_reducible exact Nat.le_trans (by assumption) (by decide)) | (with_reducible exact b0 (by assumption)) | (with_reducible exact b1 (by assumption)) | (with_reducible exact b2 (by assumption)) | (with_reducible exact Int.le_of_lt (by assumption)) | (with_reducible exact Nat.le_of_lt (by assumption)) | (with_reducible exact Int.natCast_nonneg _) | (with_reducible exact Int.le_of_lt (Int.pow_pos (by decide))) | (with_reducible exact Int.pow_pos (by decide)) | (with_reducible exact Nat.lt_of_lt_of_le (by decide) (by assumption)) | (with_reducible exact Int.ne_of_gt (by assumption)) | lia) (size := L + 1) (by first | (with_reducible assumption) | (with_reducible exact Nat.le_trans (by assumption) (by decide)) | (with_reducible exact b0 (by assumption)) | (with_reducible exact b1 (by assumption)) | (with_reducible exact b2 (by assumption)) | (with_reducible exact Int.le_of_lt (by assumption)) | (with_reducible exact Nat.le_of_lt (by assumption)) | (with_reducible exact Int.natCast_nonneg _) | (with_reducible exact Int.le_of_lt (Int.pow_pos (by decide))) | (with_reducible exact Int.pow_pos (by decide)) | (with_reducible exact Nat.lt_of_lt_of_le (by decide) (by assumption)) | (with_reducible exact Int.ne_of_gt (by assumption)) | lia) (by first | (with_reducible assumption) | (with_reducible exact Nat.le_trans (by assumption) (by decide)) | (with_reducible exact b0 (by assumption)) | (with_reducible exact b1 (by assumption)) | (with_reducible exact b2 (by assumption)) | (with_reducible exact Int.le_of_lt (by assumption)) | (with_reducible exact Nat.le_of_lt (by assumption)) | (with_reducible exact Int.natCast_nonneg _) | (with_reducible exact Int.le_of_lt (Int.pow_pos (by decide))) | (with_reducible exact Int.pow_pos (by decide)) | (with_reducible exact Nat.lt_of_lt_of_le (by decide) (by assumption)) | (with_reducible exact Int.ne_of_gt (by assumption)) | lia)) (by decide)) (fun e => nomatch e) (fun _ _ _ e => nomatch e) (hf3 _) ?_
  have hT : ∀ i, (L + 1) * n ≤ i → bitI X i = if X < 0 then 1 else 0 := fun i hi => bit_sign hfit hi
  refine B_for ((L + 1) * n - N) (fun i => .i ((N + i : Nat) : Int)) (fun _ => ⟨false, [("x", sg n X), ("start", .i N), ("wanted", .i b), ("w", .i n), ("size", .i ((L : Int) + 1)), ("row", .l (row (2 ^ n) (L + 1) X))], none⟩) (fun i => ∀ j, N ≤ j → j < N + i → bitI X j ≠ b) (fun j h1 h2 => absurd h2 (by first | (with_reducible assumption) | (with_reducible exact Nat.le_trans (by assumption) (by decide)) | (with_reducible exact b0 (by assumption)) | (with_reducible exact b1 (by assumption)) | (with_reducible exact b2 (by assumption)) | (with_reducible exact Int.le_of_lt (by assumption)) | (with_reducible exact Nat.le_of_lt (by assumption)) | (with_reducible exact Int.natCast_nonneg _) | (with_reducible exact Int.le_of_lt (Int.pow_pos (by decide))) | (with_reducible exact Int.pow_pos (by decide)) | (with_reducible exact Nat.lt_of_lt_of_le (by decide) (by assumption)) | (with_reducible exact Int.ne_of_gt (by assumption)) | lia)) eo
    (It_range2N eo o free_range (J_name eo rfl rfl (hf3 _)) (J_cast (J_bin (J_name eo rfl rfl (hf3 _)) (J_name eo rfl rfl (hf3 _)) (op_mul hmul)) (congrArg SV.i emul)) (by first | (with_reducible assumption) | (with_reducible exact Nat.le_trans (by assumption) (by decide)) | (with_reducible exact b0 (by assumption)) | (with_reducible exact b1 (by assumption)) | (with_reducible exact b2 (by assumption)) | (with_reducible exact Int.le_of_lt (by assumption)) | (with_reducible exact Nat.le_of_lt (by assumption)) | (with_reducible exact Int.natCast_nonneg _) | (with_reducible exact Int.le_of_lt (Int.pow_pos (by decide))) | (with_reducible exact Int.pow_pos (by decide)) | (with_reducible exact Nat.lt_of_lt_of_le (by decide) (by assumption)) | (with_reducible exact Int.ne_of_gt (by assumption)) | lia) (by first | (with_reducible assumption) | (with_reducible exact Nat.le_trans (by assumption) (by decide)) | (with_reducible exact b0 (by assumption)) | (with_reducible exact b1 (by assumption)) | (with_reducible exact b2 (by assumption)) | (with_reducible exact Int.le_of_lt (by assumption)) | (with_reducible exact Nat.le_of_lt (by assumption)) | (with_reducible exact Int.natCast_nonneg _) | (with_reducible exact Int.le_of_lt (Int.pow_pos (by decide))) | (with_reducible exact Int.pow_pos (by decide)) | (with_reducible exact Nat.lt_of_lt_of_le (by decide) (by assumption)) | (with_reducible exact Int.ne_of_gt (by assumption)) | lia) rfl) (fun h K => K.sub ⟨rfl, rfl, rfl, rfl, rfl, rfl, trivial⟩) (fun _ => rfl) (fun _ _ _ _ e => nomatch e) (fun _ => rfl) (hf3 _) (fun i hi hP => ?_) fun hP => ?_
  · have hlt : (N + i) / n < L + 1 := Nat.div_lt_of_lt_mul (by rw [Nat.mul_comm]; omega)
    have hrow := row_getD hB (L + 1) X _ hlt
    refine B_hit (b := bitI X (N + i) = b) (JT_cast (JT_cmp (J_bin (J_bin (J_at (J_name eo rfl rfl (hf3 _)) (J_bin (J_name eo rfl rfl (hf3 _)) (J_name eo rfl rfl (hf3 _)) (op_divN hn (by first | (with_reducible assumption) | (with_reducible exact Nat.le_trans (by assumption) (by decide)) | (with_reducible exact b0 (by assumption)) | (with_reducible exact b1 (by assumption)) | (with_reducible exact b2 (by assumption)) | (with_reducible exact Int.le_of_lt (by assumption)) | (with_reducible exact Nat.le_of_lt (by assumption)) | (with_reducible exact Int.natCast_nonneg _) | (with_reducible exact Int.le_of_lt (Int.pow_pos (by decide))) | (with_reducible exact Int.pow_pos (by decide)) | (with_reducible exact Nat.lt_of_lt_of_le (by decide) (by assumption)) | (with_reducible exact Int.ne_of_gt (by assumption)) | lia))) (by rw [row_length]; exact hlt) (by rw [row_length]; lia)) (J_bin (J_name eo rfl rfl (hf3 _)) (J_name eo rfl rfl (hf3 _)) (op_modN hn)) op_shrN) J_int op_and) (J_name eo rfl rfl (hf3 _)) op_eq) (by rw [hrow, bitAnd_m1, bit_in hn]; rfl)) (fun q => ?_) (fun q j h1 h2 => ?_) (B_end ⟨rfl, rfl, rfl, rfl, rfl, rfl, trivial⟩)
    · rw [first_at hr (by first | (with_reducible assumption) | (with_reducible exact Nat.le_trans (by assumption) (by decide)) | (with_reducible exact b0 (by assumption)) | (with_reducible exact b1 (by assumption)) | (with_reducible exact b2 (by assumption)) | (with_reducible exact Int.le_of_lt (by assumption)) | (with_reducible exact Nat.le_of_lt (by assumption)) | (with_reducible exact Int.natCast_nonneg _) | (with_reducible exact Int.le_of_lt (Int.pow_pos (by decide))) | (with_reducible exact Int.pow_pos (by decide)) | (with_reducible exact Nat.lt_of_lt_of_le (by decide) (by assumption)) | (with_reducible exact Int.ne_of_gt (by assumption)) | lia) q hP]; exact B_ret (J_name eo rfl rfl (hf3 _))
    · by_cases e : j = N + i
      · rw [e]; exact q
      · exact hP j h1 (by first | (with_reducible assumption) | (with_reducible exact Nat.le_trans (by assumption) (by decide)) | (with_reducible exact b0 (by assumption)) | (with_reducible exact b1 (by assumption)) | (with_reducible exact b2 (by assumption)) | (with_reducible exact Int.le_of_lt (by assumption)) | (with_reducible exact Nat.le_of_lt (by assumption)) | (with_reducible exact Int.natCast_nonneg _) | (with_reducible exact Int.le_of_lt (Int.pow_pos (by decide))) | (with_reducible exact Int.pow_pos (by decide)) | (with_reducible exact Nat.lt_of_lt_of_le (by decide) (by assumption)) | (with_reducible exact Int.ne_of_gt (by assumption)) | lia)
  · refine B_asg eo (J_intb eo o free_int (J_g0 (J_name eo rfl rfl (hf3 _)))) (fun _ => rfl) (fun _ _ _ e => nomatch e) (hf3 _) ?_
    refine B_ret (J_if (JT_cmp (J_name eo rfl rfl (hf3 _)) (J_name eo rfl rfl (hf3 _)) op_eq) (fun hb => ?_) (fun hb => ?_))
    · have hb : (if decide (X < 0) = true then (1 : Int) else 0) = b := of_decide_eq_true hb
      simp only [decide_eq_true_eq] at hb
      have e := first_at hr (i := max N ((L + 1) * n)) (Nat.le_max_left _ _) (by rw [hT _ (Nat.le_max_right _ _)]; exact hb) (fun j h1 h2 => hP j h1 (by first | (with_reducible assumption) | (with_reducible exact Nat.le_trans (by assumption) (by decide)) | (with_reducible exact b0 (by assumption)) | (with_reducible exact b1 (by assumption)) | (with_reducible exact b2 (by assumption)) | (with_reducible exact Int.le_of_lt (by assumption)) | (with_reducible exact Nat.le_of_lt (by assumption)) | (with_reducible exact Int.natCast_nonneg _) | (with_reducible exact Int.le_of_lt (Int.pow_pos (by decide))) | (with_reducible exact Int.pow_pos (by decide)) | (with_reducible exact Nat.lt_of_lt_of_le (by decide) (by assumption)) | (with_reducible exact Int.ne_of_gt (by assumption)) | lia))
      rw [e]
      refine J_cast (J_max eo o free_max (J_name eo rfl rfl (hf3 _)) (J_cast (J_bin (J_name eo rfl rfl (hf3 _)) (J_name eo rfl rfl (hf3 _)) (op_mul hmul)) (congrArg SV.i emul))) (congrArg SV.i ?_)
      exact maxN _ _
    · have hb : ¬ (if decide (X < 0) = true then (1 : Int) else 0) = b := of_decide_eq_false hb
      simp only [decide_eq_true_eq] at hb
      rw [first_none hr fun j h1 => ?_]
      · exact J_none
      · by_cases q : j < (L + 1) * n
        · exact hP j h1 (by first | (with_reducible assumption) | (with_reducible exact Nat.le_trans (by assumption) (by decide)) | (with_reducible exact b0 (by assumption)) | (with_reducible exact b1 (by assumption)) | (with_reducible exact b2 (by assumption)) | (with_reducible exact Int.le_of_lt (by assumption)) | (with_reducible exact Nat.le_of_lt (by assumption)) | (with_reducible exact Int.natCast_nonneg _) | (with_reducible exact Int.le_of_lt (Int.pow_pos (by decide))) | (with_reducible exact Int.pow_pos (by decide)) | (with_reducible exact Nat.lt_of_lt_of_le (by decide) (by assumption)) | (with_reducible exact Int.ne_of_gt (by assumption)) | lia)
        · rw [hT j (by first | (with_reducible assumption) | (with_reducible exact Nat.le_trans (by assumption) (by decide)) | (with_reducible exact b0 (by assumption)) | (with_reducible exact b1 (by assumption)) | (with_reducible exact b2 (by assumption)) | (with_reducible exact Int.le_of_lt (by assumption)) | (with_reducible exact Nat.le_of_lt (by assumption)) | (with_reducible exact Int.natCast_nonneg _) | (with_reducible exact Int.le_of_lt (Int.pow_pos (by decide))) | (with_reducible exact Int.pow_pos (by decide)) | (with_reducible exact Nat.lt_of_lt_of_le (by decide) (by assumption)) | (with_reducible exact Int.ne_of_gt (by assumption)) | lia)]; exact hb
theorem fnc_law_scan (hb : Builtin.Int.intBits X ≤ 40000) : Fnc w mean mg mb 1 "_law_scan" [.i X, .i N, .i b] (so (r.map Int.ofNat)) := by
  generalize hL : Builtin.Int.intBits X = L at hb
  have hfit : Fit (2 ^ L) X := hL ▸ fit_bits X
  refine' fnc_intro ["number", "start", "wanted"] ?hf ?hbind ?hloc ?hnd ?hlen ?hcell ?c2 ?c3 ?c4 ?_
  ((case hf => exact rfl); (case hcell => decide); (case hloc => decide); (case hnd => decide); (case hlen => exact rfl); (case c2 => exact rfl); (case c3 => exact rfl); (case c4 => exact rfl))
  (case hbind => (intro s _ _ _ vals hl; obtain ⟨v1, v2, v3, hv⟩ := len3 hl; subst hv; exact BindsTo.of_eq rfl))
  intro c _ _ o hcl eo
  have hf3 : ∀ q, c.cl.lookup q = none := fun q => by rw [hcl]; rfl
  have emax : max (N : Int) L + 2 = ((max N L + 2 : Nat) : Int) := by rw [maxN]; rfl
  refine B_for (max N L + 2 - N) (fun i => .i ((N + i : Nat) : Int)) (fun _ => ⟨true, [("number", .i X), ("start", .i N), ("wanted", .i b)], none⟩) (fun i => ∀ j, N ≤ j → j < N + i → bitI X j ≠ b) (fun j h1 h2 => absurd h2 (by first | (with_reducible assumption) | (with_reducible exact Nat.le_trans (by assumption) (by decide)) | (with_reducible exact b0 (by assumption)) | (with_reducible exact b1 (by assumption)) | (with_reducible exact b2 (by assumption)) | (with_reducible exact Int.le_of_lt (by assumption)) | (with_reducible exact Nat.le_of_lt (by assumption)) | (with_reducible exact Int.natCast_nonneg _) | (with_reducible exact Int.le_of_lt (Int.pow_pos (by decide))) | (with_reducible exact Int.pow_pos (by decide)) | (with_reducible exact Nat.lt_of_lt_of_le (by decide) (by assumption)) | (with_reducible exact Int.ne_of_gt (by assumption)) | lia)) eo
    (It_range2N eo o free_range (J_name eo rfl rfl (hf3 _)) (J_cast (J_bin (J_max eo o free_max (J_name eo rfl rfl (hf3 _)) (J_cast (J_bits (pl := _) (J_name eo rfl rfl (hf3 _))) (congrArg SV.i (by rw [hL])))) J_int op_add) (congrArg SV.i emax)) (by first | (with_reducible assumption) | (with_reducible exact Nat.le_trans (by assumption) (by decide)) | (with_reducible exact b0 (by assumption)) | (with_reducible exact b1 (by assumption)) | (with_reducible exact b2 (by assumption)) | (with_reducible exact Int.le_of_lt (by assumption)) | (with_reducible exact Nat.le_of_lt (by assumption)) | (with_reducible exact Int.natCast_nonneg _) | (with_reducible exact Int.le_of_lt (Int.pow_pos (by decide))) | (with_reducible exact Int.pow_pos (by decide)) | (with_reducible exact Nat.lt_of_lt_of_le (by decide) (by assumption)) | (with_reducible exact Int.ne_of_gt (by assumption)) | lia) (by first | (with_reducible assumption) | (with_reducible exact Nat.le_trans (by assumption) (by decide)) | (with_reducible exact b0 (by assumption)) | (with_reducible exact b1 (by assumption)) | (with_reducible exact b2 (by assumption)) | (with_reducible exact Int.le_of_lt (by assumption)) | (with_reducible exact Nat.le_of_lt (by assumption)) | (with_reducible exact Int.natCast_nonneg _) | (with_reducible exact Int.le_of_lt (Int.pow_pos (by decide))) | (with_reducible exact Int.pow_pos (by decide)) | (with_reducible exact Nat.lt_of_lt_of_le (by decide) (by assumption)) | (with_reducible exact Int.ne_of_gt (by assumption)) | lia) rfl) (fun h K => K.sub ⟨rfl, rfl, rfl, trivial⟩) (fun _ => rfl) (fun _ _ _ _ e => nomatch e) (fun _ => rfl) (hf3 _) (fun i hi hP => ?_) fun hP => ?_
  · refine B_hit (b := bitI X (N + i) = b) (JT_cmp (J_bin (J_bin (J_name eo rfl rfl (hf3 _)) (J_name eo rfl rfl (hf3 _)) op_shrN) J_int (op_modP (by decide))) (J_name eo rfl rfl (hf3 _)) op_eq) (fun q => ?_) (fun q j h1 h2 => ?_) (B_end ⟨rfl, rfl, rfl, trivial⟩)
    · rw [first_at hr (by first | (with_reducible assumption) | (with_reducible exact Nat.le_trans (by assumption) (by decide)) | (with_reducible exact b0 (by assumption)) | (with_reducible exact b1 (by assumption)) | (with_reducible exact b2 (by assumption)) | (with_reducible exact Int.le_of_lt (by assumption)) | (with_reducible exact Nat.le_of_lt (by assumption)) | (with_reducible exact Int.natCast_nonneg _) | (with_reducible exact Int.le_of_lt (Int.pow_pos (by decide))) | (with_reducible exact Int.pow_pos (by decide)) | (with_reducible exact Nat.lt_of_lt_of_le (by decide) (by assumption)) | (with_reducible exact Int.ne_of_gt (by assumption)) | lia) q hP]; exact B_ret (J_name eo rfl rfl (hf3 _))
    · by_cases e : j = N + i
      · rw [e]; exact q
      · exact hP j h1 (by first | (with_reducible assumption) | (with_reducible exact Nat.le_trans (by assumption) (by decide)) | (with_reducible exact b0 (by assumption)) | (with_reducible exact b1 (by assumption)) | (with_reducible exact b2 (by assumption)) | (with_reducible exact Int.le_of_lt (by assumption)) | (with_reducible exact Nat.le_of_lt (by assumption)) | (with_reducible exact Int.natCast_nonneg _) | (with_reducible exact Int.le_of_lt (Int.pow_pos (by decide))) | (with_reducible exact Int.pow_pos (by decide)) | (with_reducible exact Nat.lt_of_lt_of_le (by decide) (by assumption)) | (with_reducible exact Int.ne_of_gt (by assumption)) | lia)
  · rw [first_none hr fun j h1 => ?_]
    · exact B_ret J_none
    · by_cases q : j < max N L + 2
      · exact hP j h1 (by first | (with_reducible assumption) | (with_reducible exact Nat.le_trans (by assumption) (by decide)) | (with_reducible exact b0 (by assumption)) | (with_reducible exact b1 (by assumption)) | (with_reducible exact b2 (by assumption)) | (with_reducible exact Int.le_of_lt (by assumption)) | (with_reducible exact Nat.le_of_lt (by assumption)) | (with_reducible exact Int.natCast_nonneg _) | (with_reducible exact Int.le_of_lt (Int.pow_pos (by decide))) | (with_reducible exact Int.pow_pos (by decide)) | (with_reducible exact Nat.lt_of_lt_of_le (by decide) (by assumption)) | (with_reducible exact Int.ne_of_gt (by assumption)) | lia)
      · have h2 := hP (max N L) (by first | (with_reducible assumption) | (with_reducible exact Nat.le_trans (by assumption) (by decide)) | (with_reducible exact b0 (by assumption)) | (with_reducible exact b1 (by assumption)) | (with_reducible exact b2 (by assumption)) | (with_reducible exact Int.le_of_lt (by assumption)) | (with_reducible exact Nat.le_of_lt (by assumption)) | (with_reducible exact Int.natCast_nonneg _) | (with_reducible exact Int.le_of_lt (Int.pow_pos (by decide))) | (with_reducible exact Int.pow_pos (by decide)) | (with_reducible exact Nat.lt_of_lt_of_le (by decide) (by assumption)) | (with_reducible exact Int.ne_of_gt (by assumption)) | lia) (by first | (with_reducible assumption) | (with_reducible exact Nat.le_trans (by assumption) (by decide)) | (with_reducible exact b0 (by assumption)) | (with_reducible exact b1 (by assumption)) | (with_reducible exact b2 (by assumption)) | (with_reducible exact Int.le_of_lt (by assumption)) | (with_reducible exact Nat.le_of_lt (by assumption)) | (with_reducible exact Int.natCast_nonneg _) | (with_reducible exact Int.le_of_lt (Int.pow_pos (by decide))) | (with_reducible exact Int.pow_pos (by decide)) | (with_reducible exact Nat.lt_of_lt_of_le (by decide) (by assumption)) | (with_reducible exact Int.ne_of_gt (by assumption)) | omega)
        rw [bit_sign hfit (by first | (with_reducible assumption) | (with_reducible exact Nat.le_trans (by assumption) (by decide)) | (with_reducible exact b0 (by assumption)) | (with_reducible exact b1 (by assumption)) | (with_reducible exact b2 (by assumption)) | (with_reducible exact Int.le_of_lt (by assumption)) | (with_reducible exact Nat.le_of_lt (by assumption)) | (with_reducible exact Int.natCast_nonneg _) | (with_reducible exact Int.le_of_lt (Int.pow_pos (by decide))) | (with_reducible exact Int.pow_pos (by decide)) | (with_reducible exact Nat.lt_of_lt_of_le (by decide) (by assumption)) | (with_reducible exact Int.ne_of_gt (by assumption)) | lia)] at h2 ⊢
        exact h2
end

section
variable {w : World} {mean : ExcName → Option Value} {mg mb : Str → Option Value} {n : Nat} (hn : 0 < n) (hn9 : n ≤ 100) {X : Int}
section
variable (hl : (limbs (2 ^ n) X.natAbs).length ≤ 300) {N : Nat} (hN : N ≤ 4000) {r : Option Nat}
include hn hn9 hl hN
theorem fnc_scan_one (hr : IsFirst X N 1 r) : Fnc w mean mg mb 5 "scan_one" [sg n X, .i N, .i n] (so (r.map Int.ofNat)) := by
  refine' fnc_intro ["x", "start", "w"] ?hf ?hbind ?hloc ?hnd ?hlen ?hcell ?c2 ?c3 ?c4 ?_
  ((case hf => exact rfl); (case hcell => decide); (case hloc => decide); (case hnd => decide); (case hlen => exact rfl); (case c2 => exact rfl); (case c3 => exact rfl); (case c4 => exact rfl))
  (case hbind => (intro s _ _ _ vals hl; obtain ⟨v1, v2, v3, hv⟩ := len3 hl; subst hv; exact BindsTo.of_eq rfl))
  intro c _ _ o hcl eo
  have hf3 : ∀ q, c.cl.lookup q = none := fun q => by rw [hcl]; rfl
  exact B_ret (J_call eo o st_scan_for (Js_cons (J_name eo rfl rfl (hf3 _)) (Js_cons (J_name eo rfl rfl (hf3 _)) (Js_cons J_int (Js_cons (J_name eo rfl rfl (hf3 _)) Js_nil)))) (fnc_scan_for hn hn9 hl hN (b := 1) hr) (by decide))
theorem fnc_scan_zero (hr : IsFirst X N 0 r) : Fnc w mean mg mb 5 "scan_zero" [sg n X, .i N, .i n] (so (r.map Int.ofNat)) := by
  refine' fnc_intro ["x", "start", "w"] ?hf ?hbind ?hloc ?hnd ?hlen ?hcell ?c2 ?c3 ?c4 ?_
  ((case hf => exact rfl); (case hcell => decide); (case hloc => decide); (case hnd => decide); (case hlen => exact rfl); (case c2 => exact rfl); (case c3 => exact rfl); (case c4 => exact rfl))
  (case hbind => (intro s _ _ _ vals hl; obtain ⟨v1, v2, v3, hv⟩ := len3 hl; subst hv; exact BindsTo.of_eq rfl))
  intro c _ _ o hcl eo
  have hf3 : ∀ q, c.cl.lookup q = none := fun q => by rw [hcl]; rfl
  exact B_ret (J_call eo o st_scan_for (Js_cons (J_name eo rfl rfl (hf3 _)) (Js_cons (J_name eo rfl rfl (hf3 _)) (Js_cons J_int (Js_cons (J_name eo rfl rfl (hf3 _)) Js_nil)))) (fnc_scan_for hn hn9 hl hN (b := 0) hr) (by decide))
end
include hn hn9
theorem fnc_law_limbs (h0 : 0 ≤ X) (hl : (limbs (2 ^ n) X).length ≤ 1000) : FncR w mean mg mb 1 "_law_limbs" [.i X, .i n] (NewL (limbs (2 ^ n) X)) := by
  have hB := bs_gt hn
  refine' fnc_intro ["number", "w"] ?hf ?hbind ?hloc ?hnd ?hlen ?hcell ?c2 ?c3 ?c4 ?_
  ((case hf => exact rfl); (case hcell => decide); (case hloc => decide); (case hnd => decide); (case hlen => exact rfl); (case c2 => exact rfl); (case c3 => exact rfl); (case c4 => exact rfl))
  (case hbind => (intro s _ _ _ vals hl; obtain ⟨v1, v2, hv⟩ := len2 hl; subst hv; exact BindsTo.of_eq rfl))
  intro c _ _ o hcl eo
  have hf3 : ∀ q, c.cl.lookup q = none := fun q => by rw [hcl]; rfl
  refine B_found1 eo hcl (JN_list (ns := []) Js_nil (by decide)) rfl (fun a => ?_)
  refine B_while (σ := Int × List Int) (fun y => 0 ≤ y.1 ∧ y.2 ++ limbs (2 ^ n) y.1 = limbs (2 ^ n) X) (fun y => ⟨true, [("number", .i y.1), ("w", .i n)], some ("found", a, y.2)⟩) (fun y => decide (0 < y.1)) (fun y => (y.1 / 2 ^ n, y.2 ++ [y.1 % 2 ^ n])) (fun y => y.1.toNat) (X, []) ⟨h0, rfl⟩ (fun h K => K.sub ⟨rfl, rfl, trivial⟩) (fun _ => rfl) (fun y hy => ?_) (fun y hy hb => ?_) (fun y hy hb => ?_)
  · exact JT_cmp (J_name eo rfl rfl (hf3 _)) J_int op_gt
  · have hb := of_decide_eq_true hb
    obtain ⟨hy1, hy2⟩ := hy
    rw [limbs_pos hB hb] at hy2
    have h1 := div_lt_self hB hb
    have h2 : 0 ≤ y.1 / 2 ^ n := Int.ediv_nonneg hy1 (by first | (with_reducible assumption) | (with_reducible exact Nat.le_trans (by assumption) (by decide)) | (with_reducible exact b0 (by assumption)) | (with_reducible exact b1 (by assumption)) | (with_reducible exact b2 (by assumption)) | (with_reducible exact Int.le_of_lt (by assumption)) | (with_reducible exact Nat.le_of_lt (by assumption)) | (with_reducible exact Int.natCast_nonneg _) | (with_reducible exact Int.le_of_lt (Int.pow_pos (by decide))) | (with_reducible exact Int.pow_pos (by decide)) | (with_reducible exact Nat.lt_of_lt_of_le (by decide) (by assumption)) | (with_reducible exact Int.ne_of_gt (by assumption)) | lia | omega)
    have hlen := congrArg List.length hy2
    rw [List.length_append] at hlen
    refine ⟨?_, ⟨h2, by dsimp only; rw [← hy2, List.append_assoc]; rfl⟩, by dsimp only; (first | lia | omega)⟩
    refine B_append (i := y.1 % 2 ^ n) (pl := _) eo rfl (J_bin (J_name eo rfl rfl (hf3 _)) (J_bin J_int (J_name eo rfl rfl (hf3 _)) (one_shl (by first | (with_reducible assumption) | (with_reducible exact Nat.le_trans (by assumption) (by decide)) | (with_reducible exact b0 (by assumption)) | (with_reducible exact b1 (by assumption)) | (with_reducible exact b2 (by assumption)) | (with_reducible exact Int.le_of_lt (by assumption)) | (with_reducible exact Nat.le_of_lt (by assumption)) | (with_reducible exact Int.natCast_nonneg _) | (with_reducible exact Int.le_of_lt (Int.pow_pos (by decide))) | (with_reducible exact Int.pow_pos (by decide)) | (with_reducible exact Nat.lt_of_lt_of_le (by decide) (by assumption)) | (with_reducible exact Int.ne_of_gt (by assumption)) | lia | omega))) (op_modP (by first | (with_reducible assumption) | (with_reducible exact Nat.le_trans (by assumption) (by decide)) | (with_reducible exact b0 (by assumption)) | (with_reducible exact b1 (by assumption)) | (with_reducible exact b2 (by assumption)) | (with_reducible exact Int.le_of_lt (by assumption)) | (with_reducible exact Nat.le_of_lt (by assumption)) | (with_reducible exact Int.natCast_nonneg _) | (with_reducible exact Int.le_of_lt (Int.pow_pos (by decide))) | (with_reducible exact Int.pow_pos (by decide)) | (with_reducible exact Nat.lt_of_lt_of_le (by decide) (by assumption)) | (with_reducible exact Int.ne_of_gt (by assumption)) | lia | omega))) (by first | (with_reducible assumption) | (with_reducible exact Nat.le_trans (by assumption) (by decide)) | (with_reducible exact b0 (by assumption)) | (with_reducible exact b1 (by assumption)) | (with_reducible exact b2 (by assumption)) | (with_reducible exact Int.le_of_lt (by assumption)) | (with_reducible exact Nat.le_of_lt (by assumption)) | (with_reducible exact Int.natCast_nonneg _) | (with_reducible exact Int.le_of_lt (Int.pow_pos (by decide))) | (with_reducible exact Int.pow_pos (by decide)) | (with_reducible exact Nat.lt_of_lt_of_le (by decide) (by assumption)) | (with_reducible exact Int.ne_of_gt (by assumption)) | lia | omega) ?_
    refine B_asg (sv := .i (y.1 / 2 ^ n)) eo (J_bin (J_name eo rfl rfl (hf3 _)) (J_name eo rfl rfl (hf3 _)) op_shrN) (fun _ => rfl) (fun z a' ns e => by cases e; decide) (hf3 _) ?_
    exact B_end ⟨rfl, rfl, trivial⟩
  · have hb := of_decide_eq_false hb
    obtain ⟨hy1, hy2⟩ := hy
    rw [limbs_nonpos (by first | (with_reducible assumption) | (with_reducible exact Nat.le_trans (by assumption) (by decide)) | (with_reducible exact b0 (by assumption)) | (with_reducible exact b1 (by assumption)) | (with_reducible exact b2 (by assumption)) | (with_reducible exact Int.le_of_lt (by assumption)) | (with_reducible exact Nat.le_of_lt (by assumption)) | (with_reducible exact Int.natCast_nonneg _) | (with_reducible exact Int.le_of_lt (Int.pow_pos (by decide))) | (with_reducible exact Int.pow_pos (by decide)) | (with_reducible exact Nat.lt_of_lt_of_le (by decide) (by assumption)) | (with_reducible exact Int.ne_of_gt (by assumption)) | lia | omega), List.append_nil] at hy2
    exact B_retR (JR_found eo rfl) fun hb h v _ q => by rw [← hy2]; exact q
theorem fnc_law_signed (hl : (limbs (2 ^ n) X.natAbs).length ≤ 1000) : FncR w mean mg mb 2 "_law_signed" [.i X, .i n] (NewG (decide (X < 0)) (limbs (2 ^ n) X.natAbs)) := by
  refine' fnc_intro ["number", "w"] ?hf ?hbind ?hloc ?hnd ?hlen ?hcell ?c2 ?c3 ?c4 ?_
  ((case hf => exact rfl); (case hcell => decide); (case hloc => decide); (case hnd => decide); (case hlen => exact rfl); (case c2 => exact rfl); (case c3 => exact rfl); (case c4 => exact rfl))
  (case hbind => (intro s _ _ _ vals hl; obtain ⟨v1, v2, hv⟩ := len2 hl; subst hv; exact BindsTo.of_eq rfl))
  intro c _ _ o hcl eo
  have hf3 : ∀ q, c.cl.lookup q = none := fun q => by rw [hcl]; rfl
  exact B_retR (JR_g (J_cmp (J_name eo rfl rfl (hf3 _)) J_int op_lt) (J_callR (fun _ _ _ _ st q => q.old st) eo o st_law_limbs (Js_cons (J_abs eo o free_abs (J_name eo rfl rfl (hf3 _))) (Js_cons (J_name eo rfl rfl (hf3 _)) Js_nil)) (fnc_law_limbs hn hn9 (by first | (with_reducible assumption) | (with_reducible exact Nat.le_trans (by assumption) (by decide)) | (with_reducible exact b0 (by assumption)) | (with_reducible exact b1 (by assumption)) | (with_reducible exact b2 (by assumption)) | (with_reducible exact Int.le_of_lt (by assumption)) | (with_reducible exact Nat.le_of_lt (by assumption)) | (with_reducible exact Int.natCast_nonneg _) | (with_reducible exact Int.le_of_lt (Int.pow_pos (by decide))) | (with_reducible exact Int.pow_pos (by decide)) | (with_reducible exact Nat.lt_of_lt_of_le (by decide) (by assumption)) | (with_reducible exact Int.ne_of_gt (by assumption)) | lia | omega) hl) (by decide))) fun hb h v st q => q.old st
theorem fnc_law_sg (hl : (limbs (2 ^ n) X.natAbs).length ≤ 1000) : Fnc w mean mg mb 2 "_law_signed" [.i X, .i n] (sg n X) := fun f dp un gd fr s vals Q h1 h2 h3 h4 h5 h6 => fnc_law_signed hn hn9 hl f dp un gd fr s vals Q h1 h2 h3 h4 h5 fun v h' tk' st q => h6 v h' tk' st q.den
end

section
variable {c : Cx} {env : Env} {k : Know} {D : Nat}
theorem J_and1 {e : Expr} {pos : Pos} {r : SV} (h : J c env k e r) : J c env k (.BoolOp .And [e] pos) r := fun g tk Q K hQ => BoolOp_one (h g tk Q K hQ)
theorem J_and {e1 e2 : Expr} {rest : List Expr} {pos : Pos} {r : SV} (h1 : J c env k e1 (.b true)) (h2 : J c env k (.BoolOp .And (e2 :: rest) pos) r) : J c env k (.BoolOp .And (e1 :: e2 :: rest) pos) r := by
  intro g tk Q K hQ
  refine BoolOp_and (h1 g tk _ K fun v h' tk' st d => ?_)
  cases d
  exact wpAny_truthy_bool (h2 h' tk' _ (K.keeps st) fun v h2 tk2 st2 d2 => hQ v h2 tk2 (strans st st2) d2)
noncomputable def sgp (n : Nat) (X : Int) : Bool × List Int := (decide (X < 0), limbs (2 ^ n) X.natAbs)
theorem J_told {x : Str} {es : List Expr} {kk n : Nat} {ns : List Int} {a : Addr} {p1 p2 p3 p4 px pt pos : Pos} {sc : Scope} (hn : 0 < n) (hn9 : n ≤ 100) (o : c.Ok D) (hD : 2 ≤ D) (eo : EO c env) (hcl : c.cl = [(("w" : Str), a)]) (hw : k.l.lookup ("w" : Str) = some (.i n)) (hxw : (x == ("w" : Str)) = false)
    (hj : Js c env k es (ns.map .i)) (hlen : ns.length ≤ 1000) (hlim : ∀ X ∈ ns, (limbs (2 ^ n) X.natAbs).length ≤ 1000) (hdx : (x == ("__debug__" : Str)) = false := by decide)
    (hclos : closureFor sc env = pure env.cells := by rfl) (hk1 : ∀ cl C, (compEnvC sc cl C env).kindOf "w" = some .cell := by intro _ _; rfl) (hk2 : ∀ cl C, (compEnvC sc cl C env).kindOf x = some .local := by intro _ _; rfl) (hk3 : ∀ cl C, (compEnvC sc cl C env).kindOf "_law_signed" = some .globalImplicit := by intro _ _; rfl)
    (hcell : ∀ y ∈ sc.names, y.2 ≠ .cell := by decide) (hkind : sc.kind = .function := by rfl) (hnames : ∀ y ∈ sc.names, y.2 = .local → sc.names.lookup y.1 = some .local := by decide) (hx : ∀ y ∈ ([x] : List Str), sc.names.lookup y = some .local := by decide)
    (hs : ∀ v, foldedSetIterable (.Tuple es kk pt) env v = pure v := by intro _; rfl) :
    J c env k (.ListComp (.Call (.Name "_law_signed" p1) [.Name x p2, .Name "w" p3] [] p4) [⟨.Name x px, .Tuple es kk pt, [], 0⟩] sc pos) (.gl (ns.map (sgp n))) := by
  refine J_of_compG ?_
  rw [List.length_map]
  refine JR_comp (fun i => NewG ((ns.map (sgp n)).getD i default).1 ((ns.map (sgp n)).getD i default).2) [(("w" : Str), .i n)] o eo (Src_tup hj hlen) hlen (fun _ _ _ _ _ r q => newG_keep r q) (fun i hi c' o' q1 _ _ _ _ eo' => ?_) (fun y sv e => ?_) (fun i y v e => ?_) (by rw [← eo.cells]; exact hclos) hcell hkind hnames hx hs
  · have e : (ns.map (sgp n)).getD i default = sgp n (ns.getD i 0) := by simp [List.getD_eq_getElem?_getD, hi]
    rw [e]
    have hm : ns.getD i 0 ∈ ns := by
      rw [List.getD_eq_getElem?_getD, List.getElem?_eq_getElem hi]; exact List.getElem_mem hi
    have h1 : J c' (compEnvC sc c.cl c'.L env) ⟨false, [(x, .i (ns.getD i 0)), (("w" : Str), .i n)], none⟩ (.Name x p2) (.i (ns.getD i 0)) := J_name eo' (by rw [List.lookup_cons, beq_self_eq_true]) (hk2 _ _) (by rw [q1, hcl, List.lookup_cons, hxw]; rfl) hdx
    have h2 : J c' (compEnvC sc c.cl c'.L env) ⟨false, [(x, .i (ns.getD i 0)), (("w" : Str), .i n)], none⟩ (.Name "w" p3) (.i n) := J_cell (a := a) eo' (by rw [List.lookup_cons, show (("w" : Str) == x) = false by rw [BEq.comm]; exact hxw]; rfl) (hk1 _ _) (by rw [q1, hcl]; rfl)
    exact J_callR (D' := 2) (fun _ _ _ _ st q => q.old st) eo' o' st_law_signed (Js_cons h1 (Js_cons h2 Js_nil)) (fnc_law_signed hn hn9 (hlim _ hm)) hD (hk3 _ _)
  · rw [List.lookup_cons] at e
    cases hy : y == ("w" : Str) with
    | true => rw [hy] at e; cases e; rw [beq_iff_eq.mp hy]; exact ⟨hw, by rw [hcl]; rfl⟩
    | false => rw [hy] at e; cases e
  · rw [List.lookup_cons] at e
    cases hy : y == x with
    | true => rw [beq_iff_eq.mp hy, hcl, List.lookup_cons, hxw]; rfl
    | false => rw [hy] at e; cases e
theorem len_fit {n m : Nat} (hB : 1 < (2 : Int) ^ n) {X : Int} (h : Fit ((2 ^ n) ^ m) X) : (limbs (2 ^ n) X.natAbs).length ≤ m + 1 := by
  refine limbs_len_le hB ?_
  have hM := pow_pos' hB m
  have hMB : (2 ^ n : Int) ^ m < (2 ^ n) ^ (m + 1) := by
    rw [pow_succ']
    have := Int.mul_lt_mul_of_pos_right hB hM
    (first | lia | omega)
  unfold Fit at h; (first | lia | omega)
end
section
variable {w : World} {mean : ExcName → Option Value} {mg mb : Str → Option Value} {n : Nat} (hn : 0 < n) (hn9 : n ≤ 100) {X Y : Int} (hlX : (limbs (2 ^ n) X.natAbs).length ≤ 300) (hlY : (limbs (2 ^ n) Y.natAbs).length ≤ 300)
include hn hn9 hlX hlY
theorem fnc_two_right (hrep : pop (Builtin.bitXor X Y) < 2 ^ 1000) : Fnc w mean mg mb 6 "_law_two_right" [.i X, .i Y, .i n] (.b true) := by
  have hB := bs_gt hn
  have hf1 := len_fit hB (fit_join hn (by first | (with_reducible assumption) | (with_reducible exact Nat.le_trans (by assumption) (by decide)) | (with_reducible exact b0 (by assumption)) | (with_reducible exact b1 (by assumption)) | (with_reducible exact b2 (by assumption)) | (with_reducible exact Int.le_of_lt (by assumption)) | (with_reducible exact Nat.le_of_lt (by assumption)) | (with_reducible exact Int.natCast_nonneg _) | (with_reducible exact Int.le_of_lt (Int.pow_pos (by decide))) | (with_reducible exact Int.pow_pos (by decide)) | (with_reducible exact Nat.lt_of_lt_of_le (by decide) (by assumption)) | (with_reducible exact Int.ne_of_gt (by assumption)) | lia | omega) hlX hlY dig_and two_and)
  have hf2 := len_fit hB (fit_join hn (by first | (with_reducible assumption) | (with_reducible exact Nat.le_trans (by assumption) (by decide)) | (with_reducible exact b0 (by assumption)) | (with_reducible exact b1 (by assumption)) | (with_reducible exact b2 (by assumption)) | (with_reducible exact Int.le_of_lt (by assumption)) | (with_reducible exact Nat.le_of_lt (by assumption)) | (with_reducible exact Int.natCast_nonneg _) | (with_reducible exact Int.le_of_lt (Int.pow_pos (by decide))) | (with_reducible exact Int.pow_pos (by decide)) | (with_reducible exact Nat.lt_of_lt_of_le (by decide) (by assumption)) | (with_reducible exact Int.ne_of_gt (by assumption)) | lia | omega) hlX hlY dig_or two_or)
  have hf0 := len_fit hB (fit_join hn (by first | (with_reducible assumption) | (with_reducible exact Nat.le_trans (by assumption) (by decide)) | (with_reducible exact b0 (by assumption)) | (with_reducible exact b1 (by assumption)) | (with_reducible exact b2 (by assumption)) | (with_reducible exact Int.le_of_lt (by assumption)) | (with_reducible exact Nat.le_of_lt (by assumption)) | (with_reducible exact Int.natCast_nonneg _) | (with_reducible exact Int.le_of_lt (Int.pow_pos (by decide))) | (with_reducible exact Int.pow_pos (by decide)) | (with_reducible exact Nat.lt_of_lt_of_le (by decide) (by assumption)) | (with_reducible exact Int.ne_of_gt (by assumption)) | lia | omega) hlX hlY dig_xor two_xor)
  refine' fnc_introC "w" ["one", "other", "w"] ?hf ?hbind ?hloc ?hnd ?hlen ?hcell ?c2 ?c3 ?c4 ?_
  ((case hf => exact rfl); (case hcell => intro _; rfl); (case hloc => decide); (case hnd => decide); (case hlen => exact rfl); (case c2 => exact rfl); (case c3 => exact rfl); (case c4 => exact rfl))
  (case hbind => (intro _ _ _ vals hl; obtain ⟨v1, v2, v3, hv⟩ := len3 hl; subst hv; exact rfl))
  intro c _ _ a o hcl eo
  have hf3 : ∀ q, (q == ("w" : Str)) = false → c.cl.lookup q = none := fun q e => by rw [hcl, List.lookup_cons, e]; rfl
  have hcw : c.cl.lookup ("w" : Str) = some a := by rw [hcl]; rfl
  have hX2 : (limbs (2 ^ n) X.natAbs).length ≤ 1000 := by (first | lia | omega)
  have hY2 : (limbs (2 ^ n) Y.natAbs).length ≤ 1000 := by (first | lia | omega)
  have hm : max (limbs (2 ^ n) X.natAbs).length (limbs (2 ^ n) Y.natAbs).length ≤ 300 := by (first | lia | omega)
  refine B_unst (B_asg2 (sv1 := sg n X) (sv2 := sg n Y) eo (JS_of (J_call eo o st_law_signed (Js_cons (J_name eo rfl rfl (hf3 _ rfl)) (Js_cons (J_cell eo rfl rfl hcw) Js_nil)) (fnc_law_sg hn hn9 hX2) (by decide)) (fun e => nomatch e)) (JS_of (J_call eo o st_law_signed (Js_cons (J_name eo rfl rfl (hf3 _ rfl)) (Js_cons (J_cell eo rfl rfl hcw) Js_nil)) (fnc_law_sg hn hn9 hY2) (by decide)) (fun e => nomatch e)) (fun _ _ _ e => nomatch e) (hf3 _ rfl) (hf3 _ rfl) ?_)
  refine B_asg (sv := .gl ([Builtin.bitAnd X Y, Builtin.bitOr X Y, Builtin.bitXor X Y, Builtin.bitAnd X Y].map (sgp n))) eo (J_gl (xs := [Builtin.bitAnd X Y, Builtin.bitOr X Y, Builtin.bitXor X Y, Builtin.bitAnd X Y].map (sgp n)) ?_ (Nat.le_of_ble_eq_true rfl)) (fun e => nomatch e) (fun _ _ _ e => nomatch e) (hf3 _ rfl) ?_
  · refine Js_cons (sv := sg n _) (J_call eo o st_s_and (Js_cons (J_name eo rfl rfl (hf3 _ rfl)) (Js_cons (J_name eo rfl rfl (hf3 _ rfl)) (Js_cons (J_cell eo rfl rfl hcw) Js_nil))) (fnc_s_and hn (by first | (with_reducible assumption) | (with_reducible exact Nat.le_trans (by assumption) (by decide)) | (with_reducible exact b0 (by assumption)) | (with_reducible exact b1 (by assumption)) | (with_reducible exact b2 (by assumption)) | (with_reducible exact Int.le_of_lt (by assumption)) | (with_reducible exact Nat.le_of_lt (by assumption)) | (with_reducible exact Int.natCast_nonneg _) | (with_reducible exact Int.le_of_lt (Int.pow_pos (by decide))) | (with_reducible exact Int.pow_pos (by decide)) | (with_reducible exact Nat.lt_of_lt_of_le (by decide) (by assumption)) | (with_reducible exact Int.ne_of_gt (by assumption)) | lia | omega) hlX hlY) (by decide)) (Js_cons (sv := sg n _) (J_call eo o st_s_or (Js_cons (J_name eo rfl rfl (hf3 _ rfl)) (Js_cons (J_name eo rfl rfl (hf3 _ rfl)) (Js_cons (J_cell eo rfl rfl hcw) Js_nil))) (fnc_s_or hn (by first | (with_reducible assumption) | (with_reducible exact Nat.le_trans (by assumption) (by decide)) | (with_reducible exact b0 (by assumption)) | (with_reducible exact b1 (by assumption)) | (with_reducible exact b2 (by assumption)) | (with_reducible exact Int.le_of_lt (by assumption)) | (with_reducible exact Nat.le_of_lt (by assumption)) | (with_reducible exact Int.natCast_nonneg _) | (with_reducible exact Int.le_of_lt (Int.pow_pos (by decide))) | (with_reducible exact Int.pow_pos (by decide)) | (with_reducible exact Nat.lt_of_lt_of_le (by decide) (by assumption)) | (with_reducible exact Int.ne_of_gt (by assumption)) | lia | omega) hlX hlY) (by decide)) (Js_cons (sv := sg n _) (J_call eo o st_s_xor (Js_cons (J_name eo rfl rfl (hf3 _ rfl)) (Js_cons (J_name eo rfl rfl (hf3 _ rfl)) (Js_cons (J_cell eo rfl rfl hcw) Js_nil))) (fnc_s_xor hn (by first | (with_reducible assumption) | (with_reducible exact Nat.le_trans (by assumption) (by decide)) | (with_reducible exact b0 (by assumption)) | (with_reducible exact b1 (by assumption)) | (with_reducible exact b2 (by assumption)) | (with_reducible exact Int.le_of_lt (by assumption)) | (with_reducible exact Nat.le_of_lt (by assumption)) | (with_reducible exact Int.natCast_nonneg _) | (with_reducible exact Int.le_of_lt (Int.pow_pos (by decide))) | (with_reducible exact Int.pow_pos (by decide)) | (with_reducible exact Nat.lt_of_lt_of_le (by decide) (by assumption)) | (with_reducible exact Int.ne_of_gt (by assumption)) | lia | omega) hlX hlY) (by decide)) (Js_cons (sv := sg n _) ?_ Js_nil)))
    rw [bitAnd_comm X Y]
    exact J_call eo o st_s_and (Js_cons (J_name eo rfl rfl (hf3 _ rfl)) (Js_cons (J_name eo rfl rfl (hf3 _ rfl)) (Js_cons (J_cell eo rfl rfl hcw) Js_nil))) (fnc_s_and hn (by first | (with_reducible assumption) | (with_reducible exact Nat.le_trans (by assumption) (by decide)) | (with_reducible exact b0 (by assumption)) | (with_reducible exact b1 (by assumption)) | (with_reducible exact b2 (by assumption)) | (with_reducible exact Int.le_of_lt (by assumption)) | (with_reducible exact Nat.le_of_lt (by assumption)) | (with_reducible exact Int.natCast_nonneg _) | (with_reducible exact Int.le_of_lt (Int.pow_pos (by decide))) | (with_reducible exact Int.pow_pos (by decide)) | (with_reducible exact Nat.lt_of_lt_of_le (by decide) (by assumption)) | (with_reducible exact Int.ne_of_gt (by assumption)) | lia | omega) hlY hlX) (by decide)
  refine B_ifret (JT_cmp (J_name eo rfl rfl (hf3 _ rfl)) (J_told hn hn9 o (by decide) eo hcl rfl rfl (ns := [Builtin.bitAnd X Y, Builtin.bitOr X Y, Builtin.bitXor X Y, Builtin.bitAnd X Y]) (Js_cons (J_bin (J_name eo rfl rfl (hf3 _ rfl)) (J_name eo rfl rfl (hf3 _ rfl)) op_and) (Js_cons (J_bin (J_name eo rfl rfl (hf3 _ rfl)) (J_name eo rfl rfl (hf3 _ rfl)) op_or) (Js_cons (J_bin (J_name eo rfl rfl (hf3 _ rfl)) (J_name eo rfl rfl (hf3 _ rfl)) op_xor) (Js_cons (J_bin (J_name eo rfl rfl (hf3 _ rfl)) (J_name eo rfl rfl (hf3 _ rfl)) op_and) Js_nil)))) (Nat.le_of_ble_eq_true rfl) ?_) (op_negl o)) (fun hb => nomatch hb) (fun _ => ?_)
  · intro Z hZ
    simp only [List.mem_cons, List.not_mem_nil, or_false] at hZ
    rcases hZ with e | e | e | e <;> rw [e] <;> (first | lia | omega)
  refine B_asg (sv := so (if decide (X < 0) != decide (Y < 0) then none else some (pop (Builtin.bitXor X Y)))) eo (J_if (JT_cmp (J_cmp (J_name eo rfl rfl (hf3 _ rfl)) J_int op_lt) (J_cmp (J_name eo rfl rfl (hf3 _ rfl)) J_int op_lt) op_neb) (fun hb => ?_) (fun hb => ?_)) (fun e => nomatch e) (fun _ _ _ e => nomatch e) (hf3 _ rfl) ?_
  · rw [if_pos hb]; exact J_none
  · rw [if_neg (by rw [hb]; decide)]
    have h0 := xor_sign (X := X) (Y := Y) (by
      have : decide (X < 0) = decide (Y < 0) := by simpa using hb
      simpa using this)
    exact J_call eo o st_law_ones (Js_cons (J_bin (J_name eo rfl rfl (hf3 _ rfl)) (J_name eo rfl rfl (hf3 _ rfl)) op_xor) Js_nil) (fnc_law_ones h0) (by decide)
  have hrp : ∀ i, (if (decide (X < 0) != decide (Y < 0)) = true then none else some (pop (Builtin.bitXor X Y))) = some i → i.natAbs.log2 < 1920 := by
    intro i e
    split at e
    · cases e
    · cases e
      have h1 : (pop (Builtin.bitXor X Y)).natAbs < 2 ^ 1000 := by
        have := kbt_cast 1000
        have h2 : 0 ≤ pop (Builtin.bitXor X Y) := by unfold pop; (first | lia | omega)
        (first | lia | omega)
      by_cases q : (pop (Builtin.bitXor X Y)).natAbs = 0
      · rw [q]; decide
      · have := (Nat.log2_lt (n := (pop (Builtin.bitXor X Y)).natAbs) (k := 1000) q).mpr h1
        (first | lia | omega)
  refine B_ret (J_and (J_cmp (J_repr eo o free_repr (J_call eo o st_distance (Js_cons (J_name eo rfl rfl (hf3 _ rfl)) (Js_cons (J_name eo rfl rfl (hf3 _ rfl)) (Js_cons (J_cell eo rfl rfl hcw) Js_nil))) (fnc_distance hn (by first | (with_reducible assumption) | (with_reducible exact Nat.le_trans (by assumption) (by decide)) | (with_reducible exact b0 (by assumption)) | (with_reducible exact b1 (by assumption)) | (with_reducible exact b2 (by assumption)) | (with_reducible exact Int.le_of_lt (by assumption)) | (with_reducible exact Nat.le_of_lt (by assumption)) | (with_reducible exact Int.natCast_nonneg _) | (with_reducible exact Int.le_of_lt (Int.pow_pos (by decide))) | (with_reducible exact Int.pow_pos (by decide)) | (with_reducible exact Nat.lt_of_lt_of_le (by decide) (by assumption)) | (with_reducible exact Int.ne_of_gt (by assumption)) | lia | omega) hlX hlY) (by decide)) hrp) (J_repr eo o free_repr (J_name eo rfl rfl (hf3 _ rfl)) hrp) op_eqs) ?_)
  refine J_and (J_cmp (J_name eo rfl rfl (hf3 _ rfl)) (J_call eo o st_law_signed (Js_cons (J_name eo rfl rfl (hf3 _ rfl)) (Js_cons (J_cell eo rfl rfl hcw) Js_nil)) (fnc_law_sg hn hn9 hX2) (by decide)) (op_eqg o)) (J_and1 ?_)
  exact J_cmp (J_name eo rfl rfl (hf3 _ rfl)) (J_call eo o st_law_signed (Js_cons (J_name eo rfl rfl (hf3 _ rfl)) (Js_cons (J_cell eo rfl rfl hcw) Js_nil)) (fnc_law_sg hn hn9 hY2) (by decide)) (op_eqg o)
end

section
variable {w : World} {mean : ExcName → Option Value} {mg mb : Str → Option Value} {n : Nat} (hn : 0 < n) (hn9 : n ≤ 100) {X : Int} (hl : (limbs (2 ^ n) X.natAbs).length ≤ 300) {N : Nat} (hN : N ≤ 200)
include hn hn9 hl hN
theorem fnc_bits_right : Fnc w mean mg mb 6 "_law_bits_right" [.i X, .i N, .i n] (.b true) := by
  have hB := bs_gt hn
  have hP := Int.pow_pos (n := 2) (m := N) (by decide)
  have hl2 : (limbs (2 ^ n) (2 ^ N)).length ≤ 201 := by
    rw [limbs_two hn, List.length_append, List.length_replicate, List.length_singleton]
    have := Nat.div_le_self N n
    lia
  have hl3 : (limbs (2 ^ n) ((2 ^ N : Int)).natAbs).length ≤ 201 := by
    rw [show (((2 ^ N : Int)).natAbs : Int) = 2 ^ N by lia]; omega
  have hbits : Builtin.Int.intBits X ≤ 40000 := by
    have h1 := limbs_lt hB (X := (X.natAbs : Int)) (by first | (with_reducible assumption) | (with_reducible exact Nat.le_trans (by assumption) (by decide)) | (with_reducible exact b0 (by assumption)) | (with_reducible exact b1 (by assumption)) | (with_reducible exact b2 (by assumption)) | (with_reducible exact Int.le_of_lt (by assumption)) | (with_reducible exact Nat.le_of_lt (by assumption)) | (with_reducible exact Int.natCast_nonneg _) | (with_reducible exact Int.le_of_lt (Int.pow_pos (by decide))) | (with_reducible exact Int.pow_pos (by decide)) | (with_reducible exact Nat.lt_of_lt_of_le (by decide) (by assumption)) | (with_reducible exact Int.ne_of_gt (by assumption)) | lia)
    rw [pow_pow] at h1
    have h2 : n * (limbs (2 ^ n) (X.natAbs : Int)).length ≤ 100 * 300 := Nat.mul_le_mul hn9 hl
    have h3 := pow_le_pow h2
    unfold Builtin.Int.intBits
    split
    · exact Nat.zero_le _
    · rename_i hne
      have h4 : X.natAbs < 2 ^ 30000 := by
        have := kbt_cast 30000
        lia
      have := (Nat.log2_lt (n := X.natAbs) (k := 30000) (by simpa using hne)).mpr h4
      lia
  have hm1 : ∀ (m : Nat) (Z : Int), (limbs (2 ^ n) Z.natAbs).length ≤ m → (limbs (2 ^ n) (-1 - Z).natAbs).length ≤ m + 1 := by
    intro m Z h
    exact len_fit hB (by
      have h1 := fit_limbs hB h
      unfold Fit at *; lia)
  have hf1 := len_fit hB (fit_join hn (by first | (with_reducible assumption) | (with_reducible exact Nat.le_trans (by assumption) (by decide)) | (with_reducible exact b0 (by assumption)) | (with_reducible exact b1 (by assumption)) | (with_reducible exact b2 (by assumption)) | (with_reducible exact Int.le_of_lt (by assumption)) | (with_reducible exact Nat.le_of_lt (by assumption)) | (with_reducible exact Int.natCast_nonneg _) | (with_reducible exact Int.le_of_lt (Int.pow_pos (by decide))) | (with_reducible exact Int.pow_pos (by decide)) | (with_reducible exact Nat.lt_of_lt_of_le (by decide) (by assumption)) | (with_reducible exact Int.ne_of_gt (by assumption)) | lia) (X := X) (Y := 2 ^ N) hl (by first | (with_reducible assumption) | (with_reducible exact Nat.le_trans (by assumption) (by decide)) | (with_reducible exact b0 (by assumption)) | (with_reducible exact b1 (by assumption)) | (with_reducible exact b2 (by assumption)) | (with_reducible exact Int.le_of_lt (by assumption)) | (with_reducible exact Nat.le_of_lt (by assumption)) | (with_reducible exact Int.natCast_nonneg _) | (with_reducible exact Int.le_of_lt (Int.pow_pos (by decide))) | (with_reducible exact Int.pow_pos (by decide)) | (with_reducible exact Nat.lt_of_lt_of_le (by decide) (by assumption)) | (with_reducible exact Int.ne_of_gt (by assumption)) | lia) dig_or two_or)
  have hf2 := len_fit hB (fit_join hn (by first | (with_reducible assumption) | (with_reducible exact Nat.le_trans (by assumption) (by decide)) | (with_reducible exact b0 (by assumption)) | (with_reducible exact b1 (by assumption)) | (with_reducible exact b2 (by assumption)) | (with_reducible exact Int.le_of_lt (by assumption)) | (with_reducible exact Nat.le_of_lt (by assumption)) | (with_reducible exact Int.natCast_nonneg _) | (with_reducible exact Int.le_of_lt (Int.pow_pos (by decide))) | (with_reducible exact Int.pow_pos (by decide)) | (with_reducible exact Nat.lt_of_lt_of_le (by decide) (by assumption)) | (with_reducible exact Int.ne_of_gt (by assumption)) | lia) (X := X) (Y := 2 ^ N) hl (by first | (with_reducible assumption) | (with_reducible exact Nat.le_trans (by assumption) (by decide)) | (with_reducible exact b0 (by assumption)) | (with_reducible exact b1 (by assumption)) | (with_reducible exact b2 (by assumption)) | (with_reducible exact Int.le_of_lt (by assumption)) | (with_reducible exact Nat.le_of_lt (by assumption)) | (with_reducible exact Int.natCast_nonneg _) | (with_reducible exact Int.le_of_lt (Int.pow_pos (by decide))) | (with_reducible exact Int.pow_pos (by decide)) | (with_reducible exact Nat.lt_of_lt_of_le (by decide) (by assumption)) | (with_reducible exact Int.ne_of_gt (by assumption)) | lia) dig_xor two_xor)
  have hf0 : (limbs (2 ^ n) (Builtin.bitAnd X (0 - 1 - 2 ^ N)).natAbs).length ≤ 1000 := by
    have h1 := hm1 201 (2 ^ N) hl3
    rw [show (-1 : Int) - 2 ^ N = 0 - 1 - 2 ^ N by lia] at h1
    have h2 := len_fit hB (fit_join hn (show n ≤ 1000 by lia) (X := X) (Y := 0 - 1 - 2 ^ N) hl (by first | (with_reducible assumption) | (with_reducible exact Nat.le_trans (by assumption) (by decide)) | (with_reducible exact b0 (by assumption)) | (with_reducible exact b1 (by assumption)) | (with_reducible exact b2 (by assumption)) | (with_reducible exact Int.le_of_lt (by assumption)) | (with_reducible exact Nat.le_of_lt (by assumption)) | (with_reducible exact Int.natCast_nonneg _) | (with_reducible exact Int.le_of_lt (Int.pow_pos (by decide))) | (with_reducible exact Int.pow_pos (by decide)) | (with_reducible exact Nat.lt_of_lt_of_le (by decide) (by assumption)) | (with_reducible exact Int.ne_of_gt (by assumption)) | lia) dig_and two_and)
    lia
  have hms := hm1 300 X hl
  obtain ⟨r1, hr1⟩ := first_ex X N 1
  obtain ⟨r0, hr0⟩ := first_ex X N 0
  refine' fnc_introC "w" ["number", "n", "w"] ?hf ?hbind ?hloc ?hnd ?hlen ?hcell ?c2 ?c3 ?c4 ?_
  ((case hf => exact rfl); (case hcell => intro _; rfl); (case hloc => decide); (case hnd => decide); (case hlen => exact rfl); (case c2 => exact rfl); (case c3 => exact rfl); (case c4 => exact rfl))
  (case hbind => (intro _ _ _ vals hl; obtain ⟨v1, v2, v3, hv⟩ := len3 hl; subst hv; exact rfl))
  intro c _ _ a o hcl eo
  have hf3 : ∀ q, (q == ("w" : Str)) = false → c.cl.lookup q = none := fun q e => by rw [hcl, List.lookup_cons, e]; rfl
  have hcw : c.cl.lookup ("w" : Str) = some a := by rw [hcl]; rfl
  refine B_unst (B_asg2 (sv1 := sg n X) (sv2 := .i (2 ^ N)) eo (JS_of (J_call eo o st_law_signed (Js_cons (J_name eo rfl rfl (hf3 _ rfl)) (Js_cons (J_cell eo rfl rfl hcw) Js_nil)) (fnc_law_sg hn hn9 (by first | (with_reducible assumption) | (with_reducible exact Nat.le_trans (by assumption) (by decide)) | (with_reducible exact b0 (by assumption)) | (with_reducible exact b1 (by assumption)) | (with_reducible exact b2 (by assumption)) | (with_reducible exact Int.le_of_lt (by assumption)) | (with_reducible exact Nat.le_of_lt (by assumption)) | (with_reducible exact Int.natCast_nonneg _) | (with_reducible exact Int.le_of_lt (Int.pow_pos (by decide))) | (with_reducible exact Int.pow_pos (by decide)) | (with_reducible exact Nat.lt_of_lt_of_le (by decide) (by assumption)) | (with_reducible exact Int.ne_of_gt (by assumption)) | lia)) (by decide)) (fun e => nomatch e)) (JS_of (J_bin J_int (J_name eo rfl rfl (hf3 _ rfl)) (one_shl (by first | (with_reducible assumption) | (with_reducible exact Nat.le_trans (by assumption) (by decide)) | (with_reducible exact b0 (by assumption)) | (with_reducible exact b1 (by assumption)) | (with_reducible exact b2 (by assumption)) | (with_reducible exact Int.le_of_lt (by assumption)) | (with_reducible exact Nat.le_of_lt (by assumption)) | (with_reducible exact Int.natCast_nonneg _) | (with_reducible exact Int.le_of_lt (Int.pow_pos (by decide))) | (with_reducible exact Int.pow_pos (by decide)) | (with_reducible exact Nat.lt_of_lt_of_le (by decide) (by assumption)) | (with_reducible exact Int.ne_of_gt (by assumption)) | lia))) (fun e => nomatch e)) (fun _ _ _ e => nomatch e) (hf3 _ rfl) (hf3 _ rfl) ?_)
  refine B_ifret (b := bitI X N != bitI X N) (JT_cmp (J_call eo o st_s_bit (Js_cons (J_name eo rfl rfl (hf3 _ rfl)) (Js_cons (J_name eo rfl rfl (hf3 _ rfl)) (Js_cons (J_cell eo rfl rfl hcw) Js_nil))) (fnc_s_bit hn (by first | (with_reducible assumption) | (with_reducible exact Nat.le_trans (by assumption) (by decide)) | (with_reducible exact b0 (by assumption)) | (with_reducible exact b1 (by assumption)) | (with_reducible exact b2 (by assumption)) | (with_reducible exact Int.le_of_lt (by assumption)) | (with_reducible exact Nat.le_of_lt (by assumption)) | (with_reducible exact Int.natCast_nonneg _) | (with_reducible exact Int.le_of_lt (Int.pow_pos (by decide))) | (with_reducible exact Int.pow_pos (by decide)) | (with_reducible exact Nat.lt_of_lt_of_le (by decide) (by assumption)) | (with_reducible exact Int.ne_of_gt (by assumption)) | lia) (by first | (with_reducible assumption) | (with_reducible exact Nat.le_trans (by assumption) (by decide)) | (with_reducible exact b0 (by assumption)) | (with_reducible exact b1 (by assumption)) | (with_reducible exact b2 (by assumption)) | (with_reducible exact Int.le_of_lt (by assumption)) | (with_reducible exact Nat.le_of_lt (by assumption)) | (with_reducible exact Int.natCast_nonneg _) | (with_reducible exact Int.le_of_lt (Int.pow_pos (by decide))) | (with_reducible exact Int.pow_pos (by decide)) | (with_reducible exact Nat.lt_of_lt_of_le (by decide) (by assumption)) | (with_reducible exact Int.ne_of_gt (by assumption)) | lia)) (by decide)) (J_bin (J_bin (J_name eo rfl rfl (hf3 _ rfl)) (J_name eo rfl rfl (hf3 _ rfl)) op_shrN) J_int (op_modP (by decide))) op_ne) (fun hb => by simp at hb) (fun _ => ?_)
  refine B_asg (sv := .gl ([Builtin.bitOr X (2 ^ N), Builtin.bitAnd X (0 - 1 - 2 ^ N), Builtin.bitXor X (2 ^ N), 0 - 1 - X].map (sgp n))) eo (J_gl (xs := [Builtin.bitOr X (2 ^ N), Builtin.bitAnd X (0 - 1 - 2 ^ N), Builtin.bitXor X (2 ^ N), 0 - 1 - X].map (sgp n)) ?_ (Nat.le_of_ble_eq_true rfl)) (fun e => nomatch e) (fun _ _ _ e => nomatch e) (hf3 _ rfl) ?_
  · refine Js_cons (sv := sg n _) (J_call eo o st_set_bit (Js_cons (J_name eo rfl rfl (hf3 _ rfl)) (Js_cons (J_name eo rfl rfl (hf3 _ rfl)) (Js_cons (J_cell eo rfl rfl hcw) Js_nil))) (fnc_set_bit hn (by first | (with_reducible assumption) | (with_reducible exact Nat.le_trans (by assumption) (by decide)) | (with_reducible exact b0 (by assumption)) | (with_reducible exact b1 (by assumption)) | (with_reducible exact b2 (by assumption)) | (with_reducible exact Int.le_of_lt (by assumption)) | (with_reducible exact Nat.le_of_lt (by assumption)) | (with_reducible exact Int.natCast_nonneg _) | (with_reducible exact Int.le_of_lt (Int.pow_pos (by decide))) | (with_reducible exact Int.pow_pos (by decide)) | (with_reducible exact Nat.lt_of_lt_of_le (by decide) (by assumption)) | (with_reducible exact Int.ne_of_gt (by assumption)) | lia) (by first | (with_reducible assumption) | (with_reducible exact Nat.le_trans (by assumption) (by decide)) | (with_reducible exact b0 (by assumption)) | (with_reducible exact b1 (by assumption)) | (with_reducible exact b2 (by assumption)) | (with_reducible exact Int.le_of_lt (by assumption)) | (with_reducible exact Nat.le_of_lt (by assumption)) | (with_reducible exact Int.natCast_nonneg _) | (with_reducible exact Int.le_of_lt (Int.pow_pos (by decide))) | (with_reducible exact Int.pow_pos (by decide)) | (with_reducible exact Nat.lt_of_lt_of_le (by decide) (by assumption)) | (with_reducible exact Int.ne_of_gt (by assumption)) | lia) (by first | (with_reducible assumption) | (with_reducible exact Nat.le_trans (by assumption) (by decide)) | (with_reducible exact b0 (by assumption)) | (with_reducible exact b1 (by assumption)) | (with_reducible exact b2 (by assumption)) | (with_reducible exact Int.le_of_lt (by assumption)) | (with_reducible exact Nat.le_of_lt (by assumption)) | (with_reducible exact Int.natCast_nonneg _) | (with_reducible exact Int.le_of_lt (Int.pow_pos (by decide))) | (with_reducible exact Int.pow_pos (by decide)) | (with_reducible exact Nat.lt_of_lt_of_le (by decide) (by assumption)) | (with_reducible exact Int.ne_of_gt (by assumption)) | lia) (by first | (with_reducible assumption) | (with_reducible exact Nat.le_trans (by assumption) (by decide)) | (with_reducible exact b0 (by assumption)) | (with_reducible exact b1 (by assumption)) | (with_reducible exact b2 (by assumption)) | (with_reducible exact Int.le_of_lt (by assumption)) | (with_reducible exact Nat.le_of_lt (by assumption)) | (with_reducible exact Int.natCast_nonneg _) | (with_reducible exact Int.le_of_lt (Int.pow_pos (by decide))) | (with_reducible exact Int.pow_pos (by decide)) | (with_reducible exact Nat.lt_of_lt_of_le (by decide) (by assumption)) | (with_reducible exact Int.ne_of_gt (by assumption)) | lia)) (by decide)) (Js_cons (sv := sg n _) (J_call eo o st_clear_bit (Js_cons (J_name eo rfl rfl (hf3 _ rfl)) (Js_cons (J_name eo rfl rfl (hf3 _ rfl)) (Js_cons (J_cell eo rfl rfl hcw) Js_nil))) (fnc_clear_bit hn (by first | (with_reducible assumption) | (with_reducible exact Nat.le_trans (by assumption) (by decide)) | (with_reducible exact b0 (by assumption)) | (with_reducible exact b1 (by assumption)) | (with_reducible exact b2 (by assumption)) | (with_reducible exact Int.le_of_lt (by assumption)) | (with_reducible exact Nat.le_of_lt (by assumption)) | (with_reducible exact Int.natCast_nonneg _) | (with_reducible exact Int.le_of_lt (Int.pow_pos (by decide))) | (with_reducible exact Int.pow_pos (by decide)) | (with_reducible exact Nat.lt_of_lt_of_le (by decide) (by assumption)) | (with_reducible exact Int.ne_of_gt (by assumption)) | lia) (by first | (with_reducible assumption) | (with_reducible exact Nat.le_trans (by assumption) (by decide)) | (with_reducible exact b0 (by assumption)) | (with_reducible exact b1 (by assumption)) | (with_reducible exact b2 (by assumption)) | (with_reducible exact Int.le_of_lt (by assumption)) | (with_reducible exact Nat.le_of_lt (by assumption)) | (with_reducible exact Int.natCast_nonneg _) | (with_reducible exact Int.le_of_lt (Int.pow_pos (by decide))) | (with_reducible exact Int.pow_pos (by decide)) | (with_reducible exact Nat.lt_of_lt_of_le (by decide) (by assumption)) | (with_reducible exact Int.ne_of_gt (by assumption)) | lia) (by first | (with_reducible assumption) | (with_reducible exact Nat.le_trans (by assumption) (by decide)) | (with_reducible exact b0 (by assumption)) | (with_reducible exact b1 (by assumption)) | (with_reducible exact b2 (by assumption)) | (with_reducible exact Int.le_of_lt (by assumption)) | (with_reducible exact Nat.le_of_lt (by assumption)) | (with_reducible exact Int.natCast_nonneg _) | (with_reducible exact Int.le_of_lt (Int.pow_pos (by decide))) | (with_reducible exact Int.pow_pos (by decide)) | (with_reducible exact Nat.lt_of_lt_of_le (by decide) (by assumption)) | (with_reducible exact Int.ne_of_gt (by assumption)) | lia) (by first | (with_reducible assumption) | (with_reducible exact Nat.le_trans (by assumption) (by decide)) | (with_reducible exact b0 (by assumption)) | (with_reducible exact b1 (by assumption)) | (with_reducible exact b2 (by assumption)) | (with_reducible exact Int.le_of_lt (by assumption)) | (with_reducible exact Nat.le_of_lt (by assumption)) | (with_reducible exact Int.natCast_nonneg _) | (with_reducible exact Int.le_of_lt (Int.pow_pos (by decide))) | (with_reducible exact Int.pow_pos (by decide)) | (with_reducible exact Nat.lt_of_lt_of_le (by decide) (by assumption)) | (with_reducible exact Int.ne_of_gt (by assumption)) | lia)) (by decide)) (Js_cons (sv := sg n _) (J_call eo o st_flip_bit (Js_cons (J_name eo rfl rfl (hf3 _ rfl)) (Js_cons (J_name eo rfl rfl (hf3 _ rfl)) (Js_cons (J_cell eo rfl rfl hcw) Js_nil))) (fnc_flip_bit hn (by first | (with_reducible assumption) | (with_reducible exact Nat.le_trans (by assumption) (by decide)) | (with_reducible exact b0 (by assumption)) | (with_reducible exact b1 (by assumption)) | (with_reducible exact b2 (by assumption)) | (with_reducible exact Int.le_of_lt (by assumption)) | (with_reducible exact Nat.le_of_lt (by assumption)) | (with_reducible exact Int.natCast_nonneg _) | (with_reducible exact Int.le_of_lt (Int.pow_pos (by decide))) | (with_reducible exact Int.pow_pos (by decide)) | (with_reducible exact Nat.lt_of_lt_of_le (by decide) (by assumption)) | (with_reducible exact Int.ne_of_gt (by assumption)) | lia) (by first | (with_reducible assumption) | (with_reducible exact Nat.le_trans (by assumption) (by decide)) | (with_reducible exact b0 (by assumption)) | (with_reducible exact b1 (by assumption)) | (with_reducible exact b2 (by assumption)) | (with_reducible exact Int.le_of_lt (by assumption)) | (with_reducible exact Nat.le_of_lt (by assumption)) | (with_reducible exact Int.natCast_nonneg _) | (with_reducible exact Int.le_of_lt (Int.pow_pos (by decide))) | (with_reducible exact Int.pow_pos (by decide)) | (with_reducible exact Nat.lt_of_lt_of_le (by decide) (by assumption)) | (with_reducible exact Int.ne_of_gt (by assumption)) | lia) (by first | (with_reducible assumption) | (with_reducible exact Nat.le_trans (by assumption) (by decide)) | (with_reducible exact b0 (by assumption)) | (with_reducible exact b1 (by assumption)) | (with_reducible exact b2 (by assumption)) | (with_reducible exact Int.le_of_lt (by assumption)) | (with_reducible exact Nat.le_of_lt (by assumption)) | (with_reducible exact Int.natCast_nonneg _) | (with_reducible exact Int.le_of_lt (Int.pow_pos (by decide))) | (with_reducible exact Int.pow_pos (by decide)) | (with_reducible exact Nat.lt_of_lt_of_le (by decide) (by assumption)) | (with_reducible exact Int.ne_of_gt (by assumption)) | lia) (by first | (with_reducible assumption) | (with_reducible exact Nat.le_trans (by assumption) (by decide)) | (with_reducible exact b0 (by assumption)) | (with_reducible exact b1 (by assumption)) | (with_reducible exact b2 (by assumption)) | (with_reducible exact Int.le_of_lt (by assumption)) | (with_reducible exact Nat.le_of_lt (by assumption)) | (with_reducible exact Int.natCast_nonneg _) | (with_reducible exact Int.le_of_lt (Int.pow_pos (by decide))) | (with_reducible exact Int.pow_pos (by decide)) | (with_reducible exact Nat.lt_of_lt_of_le (by decide) (by assumption)) | (with_reducible exact Int.ne_of_gt (by assumption)) | lia)) (by decide)) (Js_cons (sv := sg n _) ?_ Js_nil)))
    rw [show (0 : Int) - 1 - X = -1 - X by lia]
    exact J_call eo o st_s_not (Js_cons (J_name eo rfl rfl (hf3 _ rfl)) (Js_cons (J_cell eo rfl rfl hcw) Js_nil)) (fnc_s_not hn (by first | (with_reducible assumption) | (with_reducible exact Nat.le_trans (by assumption) (by decide)) | (with_reducible exact b0 (by assumption)) | (with_reducible exact b1 (by assumption)) | (with_reducible exact b2 (by assumption)) | (with_reducible exact Int.le_of_lt (by assumption)) | (with_reducible exact Nat.le_of_lt (by assumption)) | (with_reducible exact Int.natCast_nonneg _) | (with_reducible exact Int.le_of_lt (Int.pow_pos (by decide))) | (with_reducible exact Int.pow_pos (by decide)) | (with_reducible exact Nat.lt_of_lt_of_le (by decide) (by assumption)) | (with_reducible exact Int.ne_of_gt (by assumption)) | lia) (by first | (with_reducible assumption) | (with_reducible exact Nat.le_trans (by assumption) (by decide)) | (with_reducible exact b0 (by assumption)) | (with_reducible exact b1 (by assumption)) | (with_reducible exact b2 (by assumption)) | (with_reducible exact Int.le_of_lt (by assumption)) | (with_reducible exact Nat.le_of_lt (by assumption)) | (with_reducible exact Int.natCast_nonneg _) | (with_reducible exact Int.le_of_lt (Int.pow_pos (by decide))) | (with_reducible exact Int.pow_pos (by decide)) | (with_reducible exact Nat.lt_of_lt_of_le (by decide) (by assumption)) | (with_reducible exact Int.ne_of_gt (by assumption)) | lia)) (by decide)
  refine B_ifret (JT_cmp (J_name eo rfl rfl (hf3 _ rfl)) (J_told hn hn9 o (by decide) eo hcl rfl rfl (ns := [Builtin.bitOr X (2 ^ N), Builtin.bitAnd X (0 - 1 - 2 ^ N), Builtin.bitXor X (2 ^ N), 0 - 1 - X]) (Js_cons (J_bin (J_name eo rfl rfl (hf3 _ rfl)) (J_name eo rfl rfl (hf3 _ rfl)) op_or) (Js_cons (J_bin (J_name eo rfl rfl (hf3 _ rfl)) (J_bin (J_bin J_int J_int op_sub) (J_name eo rfl rfl (hf3 _ rfl)) op_sub) op_and) (Js_cons (J_bin (J_name eo rfl rfl (hf3 _ rfl)) (J_name eo rfl rfl (hf3 _ rfl)) op_xor) (Js_cons (J_bin (J_bin J_int J_int op_sub) (J_name eo rfl rfl (hf3 _ rfl)) op_sub) Js_nil)))) (Nat.le_of_ble_eq_true rfl) ?_) (op_negl o)) (fun hb => nomatch hb) (fun _ => ?_)
  · intro Z hZ
    simp only [List.mem_cons, List.not_mem_nil, or_false] at hZ
    rcases hZ with e | e | e | e <;> rw [e]
    · lia
    · omega
    · lia
    · rw [show (0 : Int) - 1 - X = -1 - X by lia]; lia
  refine B_ifret (b := false) (JT_or (a := r1.map Int.ofNat != r1.map Int.ofNat) (JT_cmp (J_call eo o st_scan_one (Js_cons (J_name eo rfl rfl (hf3 _ rfl)) (Js_cons (J_name eo rfl rfl (hf3 _ rfl)) (Js_cons (J_cell eo rfl rfl hcw) Js_nil))) (fnc_scan_one hn hn9 hl (by first | (with_reducible assumption) | (with_reducible exact Nat.le_trans (by assumption) (by decide)) | (with_reducible exact b0 (by assumption)) | (with_reducible exact b1 (by assumption)) | (with_reducible exact b2 (by assumption)) | (with_reducible exact Int.le_of_lt (by assumption)) | (with_reducible exact Nat.le_of_lt (by assumption)) | (with_reducible exact Int.natCast_nonneg _) | (with_reducible exact Int.le_of_lt (Int.pow_pos (by decide))) | (with_reducible exact Int.pow_pos (by decide)) | (with_reducible exact Nat.lt_of_lt_of_le (by decide) (by assumption)) | (with_reducible exact Int.ne_of_gt (by assumption)) | lia) hr1) (by decide)) (J_call eo o st_law_scan (Js_cons (J_name eo rfl rfl (hf3 _ rfl)) (Js_cons (J_name eo rfl rfl (hf3 _ rfl)) (Js_cons J_int Js_nil))) (fnc_law_scan hn hn9 hl (by first | (with_reducible assumption) | (with_reducible exact Nat.le_trans (by assumption) (by decide)) | (with_reducible exact b0 (by assumption)) | (with_reducible exact b1 (by assumption)) | (with_reducible exact b2 (by assumption)) | (with_reducible exact Int.le_of_lt (by assumption)) | (with_reducible exact Nat.le_of_lt (by assumption)) | (with_reducible exact Int.natCast_nonneg _) | (with_reducible exact Int.le_of_lt (Int.pow_pos (by decide))) | (with_reducible exact Int.pow_pos (by decide)) | (with_reducible exact Nat.lt_of_lt_of_le (by decide) (by assumption)) | (with_reducible exact Int.ne_of_gt (by assumption)) | lia) (b := 1) hr1 hbits) (by decide)) op_neo) (fun _ => ?_) (fun e => by simp at e)) (fun hb => nomatch hb) (fun _ => ?_)
  · refine JT_cast (x := r0.map Int.ofNat != r0.map Int.ofNat) (JT_cmp (J_call eo o st_scan_zero (Js_cons (J_name eo rfl rfl (hf3 _ rfl)) (Js_cons (J_name eo rfl rfl (hf3 _ rfl)) (Js_cons (J_cell eo rfl rfl hcw) Js_nil))) (fnc_scan_zero hn hn9 hl (by first | (with_reducible assumption) | (with_reducible exact Nat.le_trans (by assumption) (by decide)) | (with_reducible exact b0 (by assumption)) | (with_reducible exact b1 (by assumption)) | (with_reducible exact b2 (by assumption)) | (with_reducible exact Int.le_of_lt (by assumption)) | (with_reducible exact Nat.le_of_lt (by assumption)) | (with_reducible exact Int.natCast_nonneg _) | (with_reducible exact Int.le_of_lt (Int.pow_pos (by decide))) | (with_reducible exact Int.pow_pos (by decide)) | (with_reducible exact Nat.lt_of_lt_of_le (by decide) (by assumption)) | (with_reducible exact Int.ne_of_gt (by assumption)) | lia) hr0) (by decide)) (J_call eo o st_law_scan (Js_cons (J_name eo rfl rfl (hf3 _ rfl)) (Js_cons (J_name eo rfl rfl (hf3 _ rfl)) (Js_cons J_int Js_nil))) (fnc_law_scan hn hn9 hl (by first | (with_reducible assumption) | (with_reducible exact Nat.le_trans (by assumption) (by decide)) | (with_reducible exact b0 (by assumption)) | (with_reducible exact b1 (by assumption)) | (with_reducible exact b2 (by assumption)) | (with_reducible exact Int.le_of_lt (by assumption)) | (with_reducible exact Nat.le_of_lt (by assumption)) | (with_reducible exact Int.natCast_nonneg _) | (with_reducible exact Int.le_of_lt (Int.pow_pos (by decide))) | (with_reducible exact Int.pow_pos (by decide)) | (with_reducible exact Nat.lt_of_lt_of_le (by decide) (by assumption)) | (with_reducible exact Int.ne_of_gt (by assumption)) | lia) (b := 0) hr0 hbits) (by decide)) op_neo) (by simp)
  refine B_ret (J_cast (J_cmp (J_call eo o st_count_ones (Js_cons (J_name eo rfl rfl (hf3 _ rfl)) Js_nil) (fnc_count_ones hn (by first | (with_reducible assumption) | (with_reducible exact Nat.le_trans (by assumption) (by decide)) | (with_reducible exact b0 (by assumption)) | (with_reducible exact b1 (by assumption)) | (with_reducible exact b2 (by assumption)) | (with_reducible exact Int.le_of_lt (by assumption)) | (with_reducible exact Nat.le_of_lt (by assumption)) | (with_reducible exact Int.natCast_nonneg _) | (with_reducible exact Int.le_of_lt (Int.pow_pos (by decide))) | (with_reducible exact Int.pow_pos (by decide)) | (with_reducible exact Nat.lt_of_lt_of_le (by decide) (by assumption)) | (with_reducible exact Int.ne_of_gt (by assumption)) | lia)) (by decide)) (y := so (if X < 0 then none else some (pop X))) (J_if (JT_cmp (J_name eo rfl rfl (hf3 _ rfl)) J_int op_lt) (fun hb => ?_) (fun hb => ?_)) op_eqo) (congrArg SV.b (by simp)))
  · rw [if_pos (of_decide_eq_true hb)]; exact J_none
  · have h0 := of_decide_eq_false hb
    rw [if_neg h0]
    exact J_call eo o st_law_ones (Js_cons (J_name eo rfl rfl (hf3 _ rfl)) Js_nil) (fnc_law_ones (by first | (with_reducible assumption) | (with_reducible exact Nat.le_trans (by assumption) (by decide)) | (with_reducible exact b0 (by assumption)) | (with_reducible exact b1 (by assumption)) | (with_reducible exact b2 (by assumption)) | (with_reducible exact Int.le_of_lt (by assumption)) | (with_reducible exact Nat.le_of_lt (by assumption)) | (with_reducible exact Int.natCast_nonneg _) | (with_reducible exact Int.le_of_lt (Int.pow_pos (by decide))) | (with_reducible exact Int.pow_pos (by decide)) | (with_reducible exact Nat.lt_of_lt_of_le (by decide) (by assumption)) | (with_reducible exact Int.ne_of_gt (by assumption)) | lia)) (by decide)
end

noncomputable abbrev kx (a b : Addr) (ns : List Int) (x : Int) (l : List (Str × SV)) : Know := ⟨false, (("box" : Str), .bx a b ns x) :: l, none⟩
noncomputable def Gd (ns : List Int) (x : Int) : Prop := ns.length ≤ 30 ∧ 0 ≤ x ∧ x < 1000003
noncomputable def BoxG (h : Heap) (a b : Addr) : Prop := ∃ ns x, Gd ns x ∧ BoxN h a b ns x
noncomputable def XK (c : Cx) (a b : Addr) (l : List (Str × SV)) (h : Heap) : Prop := ∃ ns x, Gd ns x ∧ Kn c (kx a b ns x l) h
noncomputable def Apt (a b : Addr) (h h' : Heap) : Prop := ∀ y o, y ≠ a → y ≠ b → h.get? y = some o → h'.get? y = some o
noncomputable def Ap (c : Cx) (a b : Addr) (h h' : Heap) : Prop := ∀ y o, y ≠ c.L → y ≠ a → y ≠ b → h.get? y = some o → h'.get? y = some o
noncomputable def ScL (l : List (Str × SV)) : Prop := l.all (fun p => p.2.scalar) = true
structure XS (c : Cx) (a b : Addr) : Prop where
  cl : c.cl = []
  na : c.h₀.get? a = none
  nb : c.h₀.get? b = none
theorem Apt.of {a b : Addr} {h h' : Heap} (st : h.StaysIn h') : Apt a b h h' := fun y o _ _ e => st y o e
theorem Apt.trans {a b : Addr} {h h' h'' : Heap} (p : Apt a b h h') (q : Apt a b h' h'') : Apt a b h h'' := fun y o e1 e2 e => q y o e1 e2 (p y o e1 e2 e)
theorem Apt.ap {c : Cx} {a b : Addr} {h h' : Heap} (p : Apt a b h h') : Ap c a b h h' := fun y o _ e1 e2 e => p y o e1 e2 e
theorem Ap.trans {c : Cx} {a b : Addr} {h h' h'' : Heap} (p : Ap c a b h h') (q : Ap c a b h' h'') : Ap c a b h h'' := fun y o e0 e1 e2 e => q y o e0 e1 e2 (p y o e0 e1 e2 e)
theorem Ap.same {c : Cx} {a b : Addr} {h h' : Heap} (s : Heap.SameBut c.L h h') : Ap c a b h h' := fun y o e0 _ _ e => (s.2 y e0).trans e
theorem ScL.look {x : Str} {sv : SV} : ∀ {l : List (Str × SV)}, ScL l → l.lookup x = some sv → sv.scalar = true
  | (y, u) :: r, h, e => by
    unfold ScL at h
    rw [List.all_cons, Bool.and_eq_true] at h
    rw [List.lookup_cons] at e
    cases hy : x == y with
    | true => rw [hy] at e; cases e; exact h.1
    | false => rw [hy] at e; exact ScL.look (l := r) h.2 e
theorem Kn.look {c : Cx} {st : Bool} {l l' : List (Str × SV)} {fd : Option (Str × Addr × List Int)} {h : Heap} (K : Kn c ⟨st, l, fd⟩ h) (s : ∀ x sv, l'.lookup x = some sv → l.lookup x = some sv) : Kn c ⟨st, l', fd⟩ h :=
  let ⟨m, K⟩ := K; ⟨m, K.F, fun x sv e => K.l x sv (s x sv e), K.fd, K.cl⟩
section
variable {c : Cx} {env : Env} {a b : Addr} {l l' : List (Str × SV)} {h h' : Heap} {D : Nat}
theorem Kn.box {ns : List Int} {x : Int} (K : Kn c (kx a b ns x l) h) : BoxN h a b ns x := by
  obtain ⟨m, K⟩ := K
  obtain ⟨v, _, d⟩ := K.den (x := "box") rfl
  exact d.2
theorem XK.box (K : XK c a b l h) : BoxG h a b := let ⟨ns, x, g, k⟩ := K; ⟨ns, x, g, k.box⟩
theorem XK.keeps (K : XK c a b l h) (st : h.StaysIn h') : XK c a b l h' := let ⟨ns, x, g, k⟩ := K; ⟨ns, x, g, k.keeps st⟩
theorem XK.sub (K : XK c a b l h) (s : SubL l' l) : XK c a b l' h := by
  obtain ⟨ns, x, g, K⟩ := K
  refine ⟨ns, x, g, K.look fun y sv e => ?_⟩
  rw [List.lookup_cons] at e ⊢
  cases hy : y == ("box" : Str) with
  | true => rw [hy] at e; exact e
  | false => rw [hy] at e; exact s.look e
theorem BoxN.live {ns : List Int} {x : Int} (B : BoxN h a b ns x) : (∃ o, h.get? a = some o) ∧ (∃ o, h.get? b = some o) ∧ a ≠ b := by
  obtain ⟨⟨t, o, e, hc, n, hd⟩, us, m, e', hi⟩ := B
  refine ⟨⟨o, e⟩, ⟨_, e'⟩, fun q => ?_⟩
  subst q
  rw [e] at e'
  cases e'
  have : us.toArray = #[.ref a, .int x t] := by
    have := hd; simp only [Data.seq.injEq] at this; exact this.1
  have hu : us = [.ref a, .int x t] := by
    have := congrArg Array.toList this; simpa using this
  subst hu
  cases hi
theorem XK.live (K : XK c a b l h) : (∃ o, h.get? a = some o) ∧ (∃ o, h.get? b = some o) ∧ a ≠ b ∧ a ≠ c.L ∧ b ≠ c.L := by
  obtain ⟨ns, x, g, K⟩ := K
  have B := K.box
  obtain ⟨h1, h2, h3⟩ := B.live
  obtain ⟨⟨t, o, e, hc, n, hd⟩, us, m, e', hi⟩ := B
  obtain ⟨mm, K⟩ := K
  exact ⟨h1, h2, h3, ns_ne K.F.ns e (nd_seq hd), ns_ne K.F.ns e' (nd_seq rfl)⟩
theorem Kn.move {ns ns' : List Int} {x x' : Int} (X : XS c a b) (hs : ScL l) (K : Kn c (kx a b ns x l) h) (hL : ∀ o, h.get? c.L = some o → h'.get? c.L = some o) (h0 : ∀ y o, c.h₀.get? y = some o → h'.get? y = some o) (B : BoxN h' a b ns' x') : Kn c (kx a b ns' x' l) h' := by
  obtain ⟨m, K⟩ := K
  refine ⟨m, ⟨K.F.ns.at' hL, h0, K.F.above⟩, fun y sv e => ?_, (fun _ _ _ e => nomatch e), fun p hp => by rw [X.cl] at hp; cases hp⟩
  have hh : ∀ {v}, Held c m h y v → Held c m h' y v := fun {v} q => by unfold Held at q ⊢; rw [X.cl] at q ⊢; exact q
  rw [List.lookup_cons] at e
  cases hy : y == ("box" : Str) with
  | true =>
    rw [hy] at e; cases e
    obtain ⟨v, hv, d⟩ := K.den (x := "box") rfl
    rw [beq_iff_eq.mp hy]
    obtain ⟨e1, _⟩ := d
    subst e1
    exact ⟨_, by unfold Held at hv ⊢; rw [X.cl] at hv ⊢; exact hv, rfl, B⟩
  | false =>
    rw [hy] at e
    obtain ⟨v, hv, d⟩ := K.den (x := y) (sv := sv) (by rw [List.lookup_cons, hy]; exact e)
    exact ⟨v, hh hv, d.scalar (hs.look e)⟩
theorem Kn.turn {ns ns' : List Int} {x x' : Int} (X : XS c a b) (hs : ScL l) (K : Kn c (kx a b ns x l) h) (A : Apt a b h h') (B : BoxN h' a b ns' x') : Kn c (kx a b ns' x' l) h' := by
  obtain ⟨m, KM⟩ := id K
  refine K.move X hs (fun o e => A _ o (fun q => ?_) (fun q => ?_) e) (fun y o e => A y o (fun q => ?_) (fun q => ?_) (KM.F.keep y o e)) B
  · obtain ⟨⟨t, o', e', hc, n, hd⟩, _⟩ := K.box
    exact ns_ne KM.F.ns e' (nd_seq hd) q.symm
  · obtain ⟨_, us, m', e', hi⟩ := K.box
    exact ns_ne KM.F.ns e' (nd_seq rfl) q.symm
  · exact none_at X.na q e
  · exact none_at X.nb q e
theorem XK.put {y : Str} {v : Value} {sv : SV} (K : XK c a b l h) (eo : EO c env) (X : XS c a b) (hyb : (y == ("box" : Str)) = false) (d : Den h v sv) (hx : env.kindOf y = some .local) {tk : Nat} {E : Value → Shared → Prop} {Q : Unit → Shared → Prop}
    (hQ : ∀ h' tk', XK c a b ((y, sv) :: l) h' → Ap c a b h h' → Seqs h h' → Q () (St c.s h' tk')) : wpAny (model prg c.w) c.A (storeName env y v) Q E (St c.s h tk) := by
  obtain ⟨ns, x, g, m, K⟩ := K
  refine wpAny_storeName_local hx (by rw [eo.loc]; exact K.F.ns) (fun h2 hn2 hs2 => ?_) (by rw [eo.kind]; rfl)
  rw [eo.loc] at hn2 hs2
  refine hQ h2 (tk + 1) ⟨ns, x, g, ?_⟩ (.same hs2) (seqs_set K.F.ns hs2)
  have K2 := Kn.put K d (fun e => nomatch e) (fun _ _ _ e => nomatch e) (by rw [X.cl]; rfl) hn2 hs2
  refine K2.look fun z u e => ?_
  rw [List.lookup_cons, List.lookup_cons] at e ⊢
  cases hz : z == y with
  | true =>
    have : (z == ("box" : Str)) = false := by rw [beq_iff_eq.mp hz]; exact hyb
    rw [this, hz] at e; exact e
  | false => rw [hz] at e; exact e

noncomputable def JI (c : Cx) (env : Env) (a b : Addr) (l : List (Str × SV)) (e : Expr) (P : Int → Prop) : Prop :=
  ∀ h tk (Q : Value → Shared → Prop), XK c a b l h → (∀ i t h' tk', P i → XK c a b l h' → Apt a b h h' → Q (.int i t) (St c.s h' tk')) → c.wp (eval e env) Q h tk
noncomputable def JTI (c : Cx) (env : Env) (a b : Addr) (l : List (Str × SV)) (e : Expr) (P : Bool → Prop) : Prop :=
  ∀ h tk (Q : Bool → Shared → Prop), XK c a b l h → (∀ i h' tk', P i → XK c a b l h' → Apt a b h h' → Q i (St c.s h' tk')) → c.wp (isTrue e env (eval e env)) Q h tk
theorem JI_of {e : Expr} {P : Int → Prop} (hj : ∀ ns x, Gd ns x → ∃ i, P i ∧ J c env (kx a b ns x l) e (.i i)) : JI c env a b l e P := by
  rintro h tk Q ⟨ns, x, g, K⟩ hQ
  obtain ⟨i, p, j⟩ := hj ns x g
  refine j h tk Q K fun v h' tk' st d => ?_
  obtain ⟨t, rfl⟩ := d
  exact hQ i t h' tk' p ⟨ns, x, g, K.keeps st⟩ (.of st)
theorem JTI_of {e : Expr} {P : Bool → Prop} (hj : ∀ ns x, Gd ns x → ∃ i, P i ∧ JT c env (kx a b ns x l) e i) : JTI c env a b l e P := by
  rintro h tk Q ⟨ns, x, g, K⟩ hQ
  obtain ⟨i, p, j⟩ := hj ns x g
  exact j h tk Q K fun h' tk' st => hQ i h' tk' p ⟨ns, x, g, K.keeps st⟩ (.of st)
theorem JI_bin {e1 e2 : Expr} {op : Operator} {pos : Pos} {P1 P2 P : Int → Prop} (h1 : JI c env a b l e1 P1) (h2 : JI c env a b l e2 P2) (ho : ∀ x y, P1 x → P2 y → ∃ r, P r ∧ Op c (binaryOp op) (.i x) (.i y) (.i r)) : JI c env a b l (.BinOp e1 op e2 pos) P := by
  intro h tk Q K hQ
  refine wpAny_BinOp (h1 h tk _ K fun x t h' tk' p1 K1 A1 => h2 h' tk' _ K1 fun y u h'' tk'' p2 K2 A2 => ?_)
  obtain ⟨r, p, o⟩ := ho x y p1 p2
  refine o h'' tk'' Q _ _ ⟨t, rfl⟩ ⟨u, rfl⟩ fun v' h3 tk3 st3 d3 => ?_
  obtain ⟨t', rfl⟩ := d3
  exact hQ r t' h3 tk3 p (K2.keeps st3) ((A1.trans A2).trans (.of st3))
theorem JI_if {t e1 e2 : Expr} {pos : Pos} {P : Int → Prop} {PT : Bool → Prop} (h0 : JTI c env a b l t PT) (h1 : JI c env a b l e1 P) (h2 : JI c env a b l e2 P) : JI c env a b l (.IfExp t e1 e2 pos) P := by
  intro h tk Q K hQ
  refine wpAny_IfExp (h0 h tk _ K fun bb h' tk' _ K1 A1 => ?_)
  cases bb with
  | true => exact h1 h' tk' _ K1 fun i t h'' tk'' p K2 A2 => hQ i t _ _ p K2 (A1.trans A2)
  | false => exact h2 h' tk' _ K1 fun i t h'' tk'' p K2 A2 => hQ i t _ _ p K2 (A1.trans A2)
theorem JTI_cmp {e1 e2 : Expr} {op : CmpOp} {pos : Pos} {P1 P2 : Int → Prop} {P : Bool → Prop} (h1 : JI c env a b l e1 P1) (h2 : JI c env a b l e2 P2) (ho : ∀ x y, P1 x → P2 y → ∃ r, P r ∧ Op c (compareOp op) (.i x) (.i y) (.b r)) (hm : behindInMarks op e2 = false := by with_unfolding_all rfl) :
    JTI c env a b l (.Compare e1 [op] [e2] pos) P := by
  intro h tk Q K hQ
  refine wpAny_isTrue_Compare1 (h1 h tk _ K fun x t h' tk' p1 K1 A1 => h2 h' tk' _ K1 fun y u h'' tk'' p2 K2 A2 => ?_) hm
  obtain ⟨r, p, o⟩ := ho x y p1 p2
  refine o h'' tk'' _ _ _ ⟨t, rfl⟩ ⟨u, rfl⟩ fun v' h3 tk3 st3 d3 => ?_
  cases d3
  exact wpAny_truthy_bool (hQ r h3 tk3 p (K2.keeps st3) ((A1.trans A2).trans (.of st3)))
theorem JTI_not {e : Expr} {pos : Pos} {P P' : Bool → Prop} (h1 : JTI c env a b l e P) (hp : ∀ x, P x → P' (!x)) : JTI c env a b l (.UnaryOp .Not e pos) P' :=
  fun h tk _ K hQ => isTrue_not (h1 h tk _ K fun i h' tk' p K' A' => hQ _ h' tk' (hp i p) K' A')

noncomputable def XB (c : Cx) (env : Env) (a b : Addr) (l : List (Str × SV)) (ss : List Stmt) (N : List (Str × SV) → Prop) (res : Heap → Value → Prop) : Prop :=
  ∀ h tk (Q : Flow → Shared → Prop), XK c a b l h → (∀ l' h' tk', N l' → XK c a b l' h' → Ap c a b h h' → Q .next (St c.s h' tk')) → (∀ v h' tk', res h' v → Ap c a b h h' → Q (.ret v) (St c.s h' tk')) → c.wp (execs ss env) Q h tk
variable {N N1 : List (Str × SV) → Prop} {res : Heap → Value → Prop}
theorem XB_end {l1 : List (Str × SV)} (hN : N l1) (s : SubL l1 l) : XB c env a b l [] N res := fun h tk Q K hn _ => wpAny_execs_nil (hn l1 h tk hN (K.sub s) fun _ _ _ _ _ e => e)
theorem XB_ret {e : Expr} {pos : Pos} {rest : List Stmt} {P : Int → Prop} (hj : JI c env a b l e P) (hr : ∀ i t h, P i → BoxG h a b → res h (.int i t)) : XB c env a b l (.Return (some e) pos :: rest) N res := by
  intro h tk Q K _ hret
  refine wpAny_execs_cons (wpAny_Return_some (hj h tk _ K fun i t h' tk' p K' A' => ?_))
  exact hret _ h' tk' (hr i t h' p K'.box) A'.ap
theorem XB_retJ {e : Expr} {pos : Pos} {rest : List Stmt} (hj : ∀ ns x, Gd ns x → ∃ sv, J c env (kx a b ns x l) e sv ∧ ∀ v h, Den h v sv → BoxG h a b → res h v) : XB c env a b l (.Return (some e) pos :: rest) N res := by
  rintro h tk Q ⟨ns, x, g, K⟩ _ hret
  obtain ⟨sv, j, hr⟩ := hj ns x g
  refine wpAny_execs_cons (wpAny_Return_some (j h tk _ K fun v h' tk' st d => ?_))
  exact hret _ h' tk' (hr v h' d ⟨ns, x, g, (K.keeps st).box⟩) (Apt.of st).ap
theorem XB_asg {y : Str} {p pos : Pos} {e : Expr} {rest : List Stmt} {P : Int → Prop} (eo : EO c env) (X : XS c a b) (hj : JI c env a b l e P) (hB : ∀ i, P i → XB c env a b ((y, .i i) :: l) rest N res) (hyb : (y == ("box" : Str)) = false := by decide)
    (hx : env.kindOf y = some .local := by rfl) (hs : swapsWith e (some (.Name y p)) pos.line env = pure false := by rfl) : XB c env a b l (.Assign [.Name y p] e pos :: rest) N res := by
  intro h tk Q K hn hr
  refine wpAny_execs_cons (wpAny_Assign_Name (hj h tk _ K fun i t h' tk' pi K' A' => ?_) hs)
  refine K'.put eo X hyb (sv := .i i) ⟨t, rfl⟩ hx fun h2 tk2 K2 A2 _ => ?_
  have st2 := (A'.ap (c := c)).trans A2
  exact hB i pi h2 tk2 Q K2 (fun l' h3 tk3 n3 K3 A3 => hn l' h3 tk3 n3 K3 (st2.trans A3)) fun v h3 tk3 d3 A3 => hr v h3 tk3 d3 (st2.trans A3)
theorem XB_asg2 {x y : Str} {p1 p2 tp vp pos : Pos} {n1 n2 : Nat} {e1 e2 : Expr} {rest : List Stmt} {P1 P2 : Int → Prop} (eo : EO c env) (X : XS c a b) (h1 : JI c env a b l e1 P1) (h2 : JI c env a b l e2 P2)
    (hB : ∀ i j, P1 i → P2 j → XB c env a b ((x, .i i) :: (y, .i j) :: l) rest N res) (hxb : (x == ("box" : Str)) = false := by decide) (hyb : (y == ("box" : Str)) = false := by decide) (hx : env.kindOf x = some .local := by rfl) (hy : env.kindOf y = some .local := by rfl)
    (hs1 : starEach [e1, e2] env = (false, eval e1 env) :: starEach [e2] env := by rfl) (hs2 : starEach [e2] env = (false, eval e2 env) :: starEach [] env := by rfl)
    (hs : swapsWithSole [.Tuple [.Name x p1, .Name y p2] n1 tp] (.Tuple [e1, e2] n2 vp) pos.line env = pure false := by rfl) (hw : swappedStores [.Tuple [.Name x p1, .Name y p2] n1 tp] (.Tuple [e1, e2] n2 vp) env = pure (some [x, y]) := by rfl) :
    XB c env a b l (.Assign [.Tuple [.Name x p1, .Name y p2] n1 tp] (.Tuple [e1, e2] n2 vp) pos :: rest) N res := by
  intro h tk Q K hn hr
  refine wpAny_execs_cons (Assign_Tuple_swapped (Tuple_ ?_) hs hw)
  rw [hs1]
  refine spliced_cons (h1 h tk _ K fun i t h' tk' pi K1 A1 => ?_)
  rw [hs2]
  refine spliced_cons (h2 h' tk' _ K1 fun j u h'' tk'' pj K2 A2 => spliced_nil ?_)
  refine wpAny_newTuple ?_ (by show 2 ≤ sizeLine; decide)
  have hT : IsTup (h''.push (tupOf [.int i t, .int j u] 0)) h''.objs.size #[.int i t, .int j u] := ⟨_, Heap.get?_push_size _ rfl, rfl, 0, rfl⟩
  refine unpackItems_tuple (items := #[.int i t, .int j u]) rfl hT fun h3 hs3 => ?_
  have stp := stays_push h'' (tupOf [.int i t, .int j u] 0)
  have st3 : h''.StaysIn h3 := fun b o e => hs3 b o (Nat.ne_of_lt (Nat.lt_trans (Heap.lt_size e) (by show h''.objs.size < (h''.push (tupOf [.int i t, .int j u] 0)).objs.size; rw [Heap.size_push]; exact Nat.lt_succ_self _))) (stp b o e)
  have K3 := K2.keeps st3
  refine assignInOrder_cons (bindName_ (K3.put eo X hyb (sv := .i j) ⟨u, rfl⟩ hy fun h4 tk4 K4 A4 _ => ?_))
  refine assignInOrder_cons (bindName_ (K4.put eo X hxb (sv := .i i) ⟨t, rfl⟩ hx fun h5 tk5 K5 A5 _ => ?_))
  refine assignInOrder_nil ?_
  have st5 : Ap c a b h h5 := ((((A1.trans A2).trans (.of st3)).ap (c := c)).trans A4).trans A5
  exact hB i j pi pj h5 _ Q K5 (fun l' h6 tk6 n6 K6 A6 => hn l' h6 tk6 n6 K6 (st5.trans A6)) fun v h6 tk6 d6 A6 => hr v h6 tk6 d6 (st5.trans A6)
theorem XB_skip {t : Expr} {body rest : List Stmt} {pos : Pos} (h0 : JTI c env a b l t (fun x => x = false)) (h1 : XB c env a b l rest N res) : XB c env a b l (.If t body [] pos :: rest) N res := by
  intro h tk Q K hn hr
  refine wpAny_execs_cons (wpAny_If (h0 h tk _ K fun bb h' tk' e K' A' => ?_))
  subst e
  refine wpAny_execs_nil ?_
  exact h1 h' tk' Q K' (fun l' h3 tk3 n3 K3 A3 => hn l' h3 tk3 n3 K3 ((A'.ap (c := c)).trans A3)) fun v h3 tk3 d3 A3 => hr v h3 tk3 d3 ((A'.ap (c := c)).trans A3)
theorem XB_if {t : Expr} {body rest : List Stmt} {pos : Pos} {P : Bool → Prop} (h0 : JTI c env a b l t P) (h1 : XB c env a b l body N1 res) (h2 : N1 l) (h3 : ∀ l', N1 l' → XB c env a b l' rest N res) : XB c env a b l (.If t body [] pos :: rest) N res := by
  intro h tk Q K hn hr
  refine wpAny_execs_cons (wpAny_If (h0 h tk _ K fun bb h' tk' _ K' A' => ?_))
  have A0 := A'.ap (c := c)
  cases bb with
  | true =>
    refine h1 h' tk' _ K' (fun l1 h4 tk4 n4 K4 A4 => ?_) fun v h4 tk4 d4 A4 => hr v h4 tk4 d4 (A0.trans A4)
    exact h3 l1 n4 h4 tk4 Q K4 (fun l' h5 tk5 n5 K5 A5 => hn l' h5 tk5 n5 K5 ((A0.trans A4).trans A5)) fun v h5 tk5 d5 A5 => hr v h5 tk5 d5 ((A0.trans A4).trans A5)
  | false =>
    refine wpAny_execs_nil ?_
    exact h3 l h2 h' tk' Q K' (fun l' h5 tk5 n5 K5 A5 => hn l' h5 tk5 n5 K5 (A0.trans A5)) fun v h5 tk5 d5 A5 => hr v h5 tk5 d5 (A0.trans A5)
end

structure ItY (c : Cx) (a b : Addr) (h h' : Heap) (I : Addr) (n : Nat) (val : Nat → SV) (fp : List Addr) (P : Nat → Value → Prop) (S : Nat → Heap → Prop) : Prop where
  new : h.get? I = none
  W : Walks prg c.w c.A I fp [I] n P S
  st : S 0 h'
  val : ∀ i v, i < n → P i v → ∀ g, Den g v (val i)
  off : ∀ y ∈ fp, y ≠ c.L ∧ y ≠ a ∧ y ≠ b
  inI : I ∈ fp
noncomputable def ItX (c : Cx) (env : Env) (a b : Addr) (l : List (Str × SV)) (iter : Expr) (PN : Nat → (Nat → SV) → Prop) : Prop :=
  ∀ h tk (Q : Value → Shared → Prop), XK c a b l h → (∀ n val I fp P S h' tk', PN n val → XK c a b l h' → Apt a b h h' → ItY c a b h h' I n val fp P S → Q (.ref I) (St c.s h' tk')) →
    c.wp (eval iter env) (fun xv s₁ => wpAny (model prg c.w) c.A (pyIter xv) Q (fun _ _ => False) s₁) h tk
section
variable {c : Cx} {env : Env} {a b : Addr} {l : List (Str × SV)} {D : Nat}
theorem ne_of_new {h : Heap} {I y : Addr} (hI : h.get? I = none) (hy : ∃ o, h.get? y = some o) : I ≠ y := fun q => by obtain ⟨o, e⟩ := hy; rw [q, e] at hI; cases hI
theorem XK.liveL {h : Heap} (K : XK c a b l h) : ∃ o, h.get? c.L = some o := by
  obtain ⟨_, _, _, m, K⟩ := K
  obtain ⟨oL, es, ep, eL, dL, _⟩ := K.F.ns
  exact ⟨_, eL⟩
theorem ItX_of {iter : Expr} {PN : Nat → (Nat → SV) → Prop} (X : XS c a b) (hit : ∀ ns x, Gd ns x → ∃ n val, PN n val ∧ It c env (kx a b ns x l) iter n val) : ItX c env a b l iter PN := by
  rintro h tk Q ⟨ns, x, g, K⟩ hQ
  obtain ⟨n, val, p, it⟩ := hit ns x g
  refine it h tk Q K fun I h' tk' st hI => ?_
  refine ex3 hI.2 fun fp P S hz => an5 hz fun W hst hval hfp hIo => ?_
  have hI0 := hI.1
  clear hz hI
  have KX : XK c a b l h := ⟨ns, x, g, K⟩
  obtain ⟨la, lb, _, _, _⟩ := KX.live
  have lL := KX.liveL
  obtain ⟨m, KM⟩ := id K
  refine hQ n val I fp P S h' tk' p (KX.keeps st) (.of st) ⟨hI0, W, hst, hval, fun y hy => ?_, W.sub I (.head _)⟩
  by_cases q : y = I
  · rw [q]; exact ⟨ne_of_new hI0 lL, ne_of_new hI0 la, ne_of_new hI0 lb⟩
  · obtain ⟨o, e⟩ := hfp y hy q
    refine ⟨Nat.ne_of_lt (Nat.lt_of_lt_of_le (Heap.lt_size e) KM.F.above), fun q => ?_, fun q => ?_⟩
    · exact none_at X.na q e
    · exact none_at X.nb q e
theorem ItX_range {p pos : Pos} {e : Expr} {PI : Int → Prop} (eo : EO c env) (o : c.Ok D) (hf : Free "range") (he : JI c env a b l e PI) (hb : ∀ i, PI i → 0 ≤ i ∧ i < 2 ^ 62)
    (hs : starEach [e] env = (false, eval e env) :: starEach [] env := by rfl) (hx : env.kindOf "range" = some .globalImplicit := by rfl) : ItX c env a b l (.Call (.Name "range" p) [e] [] pos) (fun n val => (∃ i, PI i ∧ n = i.toNat) ∧ val = fun i => .i i) := by
  intro h tk Q K hQ
  obtain ⟨ns, x, g, K0⟩ := id K
  refine Call_Name rfl (name_bui eo o K0 hf boot_range (by decide) hx (by decide) ?_)
  refine Pv.callWith_type1 ?_ hs rfl
  rw [hs]
  refine spliced_cons (he h tk _ K fun i t h1 tk1 pi K1 A1 => spliced_nil ?_)
  obtain ⟨ns1, x1, g1, m1, K1'⟩ := id K1
  have h0 := hb i pi
  refine range1_rows K1'.F news_none fun h2 tk2 t1 u1 v1 hr _ _ st2 => ?_
  refine wpAny_pyIter_range hr (small_one (by decide) (by decide) (by first | (with_reducible assumption) | (with_reducible exact Nat.le_trans (by assumption) (by decide)) | (with_reducible exact b0 (by assumption)) | (with_reducible exact b1 (by assumption)) | (with_reducible exact b2 (by assumption)) | (with_reducible exact Int.le_of_lt (by assumption)) | (with_reducible exact Nat.le_of_lt (by assumption)) | (with_reducible exact Int.natCast_nonneg _) | (with_reducible exact Int.le_of_lt (Int.pow_pos (by decide))) | (with_reducible exact Int.pow_pos (by decide)) | (with_reducible exact Nat.lt_of_lt_of_le (by decide) (by assumption)) | (with_reducible exact Int.ne_of_gt (by assumption)) | lia | omega) h0.2) ?_
  have hsz : Builtin.Range.rangeSize 0 i 1 = ((i.toNat : Nat) : Int) := by rw [rangeSize_nat]; (first | lia | omega)
  have hnew : h.get? h2.objs.size = none := by
    cases q : h.get? h2.objs.size with
    | none => rfl
    | some o =>
      obtain ⟨⟨oa, ea⟩, ⟨ob, eb⟩, _⟩ := K1.live
      by_cases qa : h2.objs.size = a
      · exact absurd (Heap.lt_size (st2 a oa ea)) (by rw [← qa]; exact Nat.lt_irrefl _)
      · by_cases qb : h2.objs.size = b
        · exact absurd (Heap.lt_size (st2 b ob eb)) (by rw [← qb]; exact Nat.lt_irrefl _)
        · exact absurd (Heap.lt_size (st2 _ _ (A1 _ _ qa qb q))) (Nat.lt_irrefl _)
  have K2 := K1.keeps st2
  obtain ⟨la, lb, _, _, _⟩ := K2.live
  have lL := K2.liveL
  have hn2 := fresh_size h2
  have W := Walks.range (prog := prg) (w := c.w) (A := c.A) rfl h2.objs.size 0 1 i.toNat
  have S0 : IsRangeIter (h2.push { cls := .type "range_iterator", data := .fields #[.int (0 + ((0 : Nat) : Int) * 1) 0, .int (((i.toNat : Nat) : Int) - ((0 : Nat) : Int)) 0, .int 1 0] }) h2.objs.size (0 + ((0 : Nat) : Int) * 1) (((i.toNat : Nat) : Int) - ((0 : Nat) : Int)) 1 := Heap.get?_push_size h2 rfl
  rw [hsz]
  refine hQ i.toNat _ h2.objs.size _ _ _ _ tk2 ⟨⟨i, pi, rfl⟩, rfl⟩ (K2.keeps (stays_push _ _)) ((A1.trans (.of st2)).trans (.of (stays_push _ _))) ⟨hnew, W, ?_, ?_, ?_, List.mem_singleton.mpr rfl⟩
  · show IsRangeIter (h2.push _) h2.objs.size _ _ _
    simpa using Heap.get?_push_size h2 rfl
  · rintro j v _ ⟨t, rfl⟩ g'
    exact ⟨t, by rw [show (0 : Int) + (j : Int) * 1 = j by (first | lia | omega)]⟩
  · intro y hy
    rw [List.mem_singleton.mp hy]
    exact ⟨ne_of_new hn2 lL, ne_of_new hn2 la, ne_of_new hn2 lb⟩
theorem ItX_new {e : Expr} {ms : List Int} (hj : ∀ ns x, Gd ns x → JN c env (kx a b ns x l) e ms) : ItX c env a b l e (fun n val => n = ms.length ∧ val = fun i => .i (ms.getD i 0)) := by
  rintro h tk Q ⟨ns, x, g, K⟩ hQ
  have KX : XK c a b l h := ⟨ns, x, g, K⟩
  refine hj ns x g h tk _ K fun d h1 tk1 st hd0 hd => ?_
  obtain ⟨us, m, ho, hi⟩ := hd
  have hls : (St c.s h1 tk1).heap.IsList d us.toArray := ⟨_, ho, rfl, m, rfl⟩
  refine wpAny_pyIter_list hls ?_
  have W := Walks.list (prog := prg) (w := c.w) (A := c.A) rfl h1.objs.size d (Nat.ne_of_lt (Heap.lt_size ho)) us.toArray
  rw [show us.toArray.size = ms.length by simp [hi.length]] at W
  obtain ⟨la, lb, _, _, _⟩ := KX.live
  have lL := KX.liveL
  have hn := fresh_after st
  refine hQ _ _ h1.objs.size _ _ _ _ tk1 ⟨rfl, rfl⟩ (KX.keeps (strans st (stays_push _ _))) (.of (strans st (stays_push _ _))) ⟨hn, W, ⟨⟨_, Heap.get?_push_size _ rfl, rfl, rfl⟩, hls.at fun o e => Heap.get?_push_of_some _ e⟩, ?_, ?_, .head _⟩
  · intro i v hlt hP g'
    obtain ⟨t, e⟩ := ints_at hi hlt hP
    exact ⟨t, e⟩
  · intro y hy
    rcases List.mem_cons.mp hy with rfl | hy
    · exact ⟨ne_of_new hn lL, ne_of_new hn la, ne_of_new hn lb⟩
    · rw [List.mem_singleton.mp hy]; exact ⟨ne_of_new hd0 lL, ne_of_new hd0 la, ne_of_new hd0 lb⟩
theorem ItX_tup {es : List Expr} {kk : Nat} {pos : Pos} {ms : List Int} (hj : ∀ ns x, Gd ns x → Js c env (kx a b ns x l) es (ms.map .i)) (hlen : ms.length ≤ 1000) : ItX c env a b l (.Tuple es kk pos) (fun n val => n = ms.length ∧ val = fun i => .i (ms.getD i 0)) := by
  rintro h tk Q ⟨ns, x, g, K⟩ hQ
  have KX : XK c a b l h := ⟨ns, x, g, K⟩
  refine wpAny_Tuple (hj ns x g pos h tk _ K fun vs h1 tk1 st ds => ?_)
  have hi := ints_of_den ds
  refine ⟨by rw [hi.length, sizeLine_eq]; (first | lia | omega), ?_⟩
  have ht : (h1.push { cls := .type "tuple", data := .seq vs.toArray }).IsTuple h1.objs.size vs.toArray := ⟨_, Heap.get?_push_size _ rfl, rfl, _, rfl⟩
  refine wpAny_pyIter_tuple (items := vs.toArray) ht ?_
  have hsz : (h1.push { cls := .type "tuple", data := .seq vs.toArray }).objs.size = h1.objs.size + 1 := Heap.size_push ..
  have W := Walks.tuple (prog := prg) (w := c.w) (A := c.A) rfl (h1.push { cls := .type "tuple", data := .seq vs.toArray }).objs.size h1.objs.size (by rw [hsz]; exact Nat.ne_of_lt (Nat.lt_succ_self _)) vs.toArray
  rw [show vs.toArray.size = ms.length by simp [hi.length]] at W
  have st1 := strans st (stays_push h1 { cls := .type "tuple", data := .seq vs.toArray })
  have hn := fresh_after st1
  have hd0 := fresh_after st
  obtain ⟨la, lb, _, _, _⟩ := KX.live
  have lL := KX.liveL
  refine hQ _ _ _ _ _ _ _ tk1 ⟨rfl, rfl⟩ (KX.keeps (strans st1 (stays_push _ _))) (.of (strans st1 (stays_push _ _))) ⟨hn, W, ⟨⟨_, Heap.get?_push_size _ rfl, rfl, rfl⟩, Heap.IsTuple.at ht fun o e => Heap.get?_push_of_some _ e⟩, ?_, ?_, .head _⟩
  · intro i v hlt hP g'
    obtain ⟨t, e⟩ := ints_at hi hlt hP
    exact ⟨t, e⟩
  · intro y hy
    rcases List.mem_cons.mp hy with rfl | hy
    · exact ⟨ne_of_new hn lL, ne_of_new hn la, ne_of_new hn lb⟩
    · rw [List.mem_singleton.mp hy]; exact ⟨ne_of_new hd0 lL, ne_of_new hd0 la, ne_of_new hd0 lb⟩
theorem XB_for {x : Str} {px pos : Pos} {iter : Expr} {body rest : List Stmt} {N : List (Str × SV) → Prop} {res : Heap → Value → Prop} {PN : Nat → (Nat → SV) → Prop} (KI : Nat → List (Str × SV) → Prop) (l0 : List (Str × SV)) (eo : EO c env) (X : XS c a b) (hit : ItX c env a b l iter PN) (h0 : SubL l0 l) (hI0 : KI 0 l0)
    (hsc : ∀ i l', KI i l' → ScL l') (hb : ∀ n val, PN n val → ∀ i l', i < n → KI i l' → XB c env a b ((x, val i) :: l') body (KI (i + 1)) res) (hr : ∀ n val, PN n val → ∀ l', KI n l' → XB c env a b l' rest N res) (hxb : (x == ("box" : Str)) = false := by decide)
    (hx : env.kindOf x = some .local := by rfl) (hs : ∀ x, foldedSetIterable iter env x = pure x := by intro _; rfl) (_hE : PassesOwn (model prg c.w) c.A env (fun _ _ => False) := by passes_own) :
    XB c env a b l (.For (.Name x px) iter body [] pos :: rest) N res := by
  intro h tk Q K hn hret
  refine wpAny_execs_cons (wpAny_For (hit h tk _ K fun n val I fp P S h1 tk1 pn K1 A1 Y => ?_) hs)
  have lL := K.liveL
  obtain ⟨la, lb, _, _, _⟩ := K.live
  refine codeAny_forLoop (fun j s' => ∃ h' tk' i l', s' = St c.s h' tk' ∧ S i h' ∧ XK c a b l' h' ∧ Ap c a b h h' ∧ i ≤ n ∧ j = n + 1 - i ∧ KI i l') ?_ (n + 1) (mk4 h1 tk1 0 l0 ⟨rfl, Y.st, K1.sub h0, A1.ap, Nat.zero_le _, rfl, hI0⟩)
  refine fun j s' hI => ex4 hI fun h2 tk2 i l' hz => an7 hz fun e1 hst2 K2 A2 hi e2 hKI => ?_
  clear hz hI
  subst e1; subst e2
  have next : ∀ h3 : Heap, (∀ y o, y ∉ [I] → h2.get? y = some o → h3.get? y = some o) → XK c a b l' h3 ∧ Ap c a b h h3 := fun h3 hk => by
    have hk' : ∀ y o, y ≠ I → h2.get? y = some o → h3.get? y = some o := fun y o hb e => hk y o (fun hm => hb (List.mem_singleton.mp hm)) e
    refine ⟨?_, fun y o e0 e1 e2 e => hk' y o (fun q => none_at Y.new q e) (A2 y o e0 e1 e2 e)⟩
    obtain ⟨ns, x', g, K2'⟩ := K2
    obtain ⟨m, KM⟩ := id K2'
    refine ⟨ns, x', g, K2'.move X (hsc _ _ hKI) (fun o e => hk' _ o (ne_of_new Y.new lL).symm e) (fun y o e => hk' y o (fun q => ?_) (KM.F.keep y o e)) ?_⟩
    · obtain ⟨_, _, _, m0, K0⟩ := K
      exact none_at Y.new q (K0.F.keep _ _ e)
    · obtain ⟨⟨t, o, e, r⟩, us, m', e', hi'⟩ := K2'.box
      exact ⟨⟨t, o, hk' _ o (ne_of_new Y.new la).symm e, r⟩, us, m', hk' _ _ (ne_of_new Y.new lb).symm e', hi'⟩
  by_cases hlt : i < n
  · refine Y.W.item i _ _ _ hlt hst2 fun v h3 tk3 hP hst3 hk3 => ?_
    obtain ⟨K3, A3⟩ := next h3 hk3
    refine wpAny_assign_Name (K3.put eo X hxb (Y.val i v hlt hP h3) hx fun h4 tk4 K4 A4 _ => ?_)
    have hst4 : S (i + 1) h4 := Y.W.frame _ _ _ hst3 fun y hy o e => A4 y o (Y.off y hy).1 (Y.off y hy).2.1 (Y.off y hy).2.2 e
    have A34 := A3.trans A4
    refine wpAny_mono (hb n val pn i l' hlt hKI h4 tk4 (fun f s₃ => match f with | .next => ∃ l5 h5 tk5, s₃ = St c.s h5 tk5 ∧ KI (i + 1) l5 ∧ XK c a b l5 h5 ∧ Ap c a b h4 h5 | .ret v => Q (.ret v) s₃ | _ => False) K4 (fun l5 h5 tk5 n5 K5 A5 => ⟨l5, h5, tk5, rfl, n5, K5, A5⟩) fun v h5 tk5 d5 A5 => hret v h5 tk5 d5 (A34.trans A5)) (fun f s₃ hq => ?_) fun _ _ e => e.elim
    cases f with
    | next =>
      obtain ⟨l5, h5, tk5, rfl, n5, K5, A5⟩ := hq
      exact ⟨n + 1 - (i + 1), by (first | lia | omega), mk4 h5 tk5 (i + 1) l5 ⟨rfl, Y.W.frame _ _ _ hst4 fun y hy o e => A5 y o (Y.off y hy).1 (Y.off y hy).2.1 (Y.off y hy).2.2 e, K5, A34.trans A5, hlt, rfl, n5⟩⟩
    | ret v => exact hq
    | cont => exact hq.elim
    | brk => exact hq.elim
  · have hin : i = n := by (first | lia | omega)
    subst hin
    refine Y.W.done _ _ _ hst2 fun h3 tk3 hk3 => wpAny_execs_nil ?_
    obtain ⟨K3, A3⟩ := next h3 hk3
    exact hr i val pn l' hKI h3 tk3 Q K3 (fun l4 h4 tk4 n4 K4 A4 => hn l4 h4 tk4 n4 K4 (A3.trans A4)) fun v h4 tk4 d4 A4 => hret v h4 tk4 d4 (A3.trans A4)
end

noncomputable def FncX (w : World) (mean : ExcName → Option Value) (mg mb : Str → Option Value) (D : Nat) (H0 : Heap) (a b : Addr) (x : Str) (svs : List SV) (P : Int → Prop) : Prop :=
  ∀ (f : Addr) (dp un : Nat) (gd : Option (List Code)) (fr : List Env) (s : Shared) (vals : List Value) (Q : Value → Shared → Prop) (ns : List Int) (z : Int), mg x = some (.ref f) → Here mean mg mb H0 → H0.StaysIn s.heap → H0.objs.size ≤ s.heap.objs.size → H0.get? a = none → H0.get? b = none → Gd ns z → dp + D ≤ 900 → un + 20 * D ≤ 9000 → DenAll s.heap vals (.bx a b ns z :: svs) →
    (∀ i t h' tk', P i → Apt a b s.heap h' → BoxG h' a b → Q (.int i t) (St s h' tk')) → wpAny (model prg w) (AA dp un gd fr) (call (.ref f) vals) Q (fun _ _ => False) s
theorem fncX_intro {w : World} {mean : ExcName → Option Value} {mg mb : Str → Option Value} {D : Nat} {H0 : Heap} {a b : Addr} {x : Str} {svs : List SV} {P : Int → Prop} (xs : List Str)
    {params : Arguments} {body : List Stmt} {scope : Scope} {ps : Pos} (hf : (recsOf hd.view_39).find? (fun e => e.name == x) = some ⟨x, params, body, scope, ps⟩)
    (hbind : ∀ s pm code doc vals, vals.length = (("box" : Str) :: xs).length → BindsTo s (docDef x params body scope pm code doc) ⟨vals, []⟩ ((("box" : Str) :: xs).zip vals))
    (hloc : ∀ y ∈ (("box" : Str) :: xs), scope.names.lookup y = some .local) (hnd : (("box" : Str) :: xs).Nodup) (hlen : xs.length = svs.length) (hcell : ∀ x ∈ scope.names, x.2 ≠ .cell) (hco : scope.isCoroutine = false) (hgen : scope.isGenerator = false) (hk : scope.kind = .function)
    (h : ∀ (c : Cx) f cdv, c.w = w → c.mean = mean → c.mg = mg → c.mb = mb → c.h₀ = H0 → c.Ok D → XS c a b → EO c (envOf x scope c.L f cdv) → XB c (envOf x scope c.L f cdv) a b (xs.zip svs) body (fun _ => False) (fun h v => ∃ i t, v = .int i t ∧ P i ∧ BoxG h a b)) : FncX w mean mg mb (D + 1) H0 a b x svs P := by
  intro f dp un gd fr s vals Q ns z hmg H hst hsz ha hb hg hdp hun ds hQ
  obtain ⟨f', o, pm, cdv, doc, h1, h2, h3, h4⟩ := H.T.fn _ (List.mem_of_find?_eq_some hf)
  cases Value.ref.inj (Option.some.inj (h1.symm.trans hmg))
  have hl := denAll_length ds
  rw [List.length_cons, ← hlen, ← List.length_cons (a := ("box" : Str))] at hl
  have hlv : ((("box" : Str) :: xs).zip vals).map (·.1) = ("box" : Str) :: xs := zip_names hl.symm
  have HT := H.keeps hst
  refine wpAny_call (codeAny_call_def (fd := docDef x params body scope pm cdv doc) (body := body) (binds := (("box" : Str) :: xs).zip vals) (by show dp < 1000; (first | lia | omega)) (hst _ _ h2) h3 HT.T.nolimit (h4.keeps hst) rfl (hbind s _ _ _ vals hl) hcell (fun y hy => ?_) (fun h₁ hns hk₁ => ?_) hco hgen hk)
  · exact hloc y.1 (by rw [← hlv]; exact List.mem_map_of_mem (f := (·.1)) hy)
  let env := envOf x scope s.heap.objs.size f cdv
  let c : Cx := ⟨w, mean, mg, mb, H0, s.heap.objs.size, dp + 1, un + 3, gd, env :: fr, s, []⟩
  have F : Fr H0 s.heap.objs.size h₁ (fun y => ((("box" : Str) :: xs).zip vals).reverse.lookup y) := ⟨hns, fun y o e => hk₁ y o (hst y o e), hsz⟩
  have ds1 : DenAll h₁ vals (.bx a b ns z :: svs) := ds.mono (.of_stays hk₁)
  have K : Kn c (kx a b ns z (xs.zip svs)) h₁ := by
    refine ⟨_, F, fun y u e => ?_, (fun _ _ _ e => nomatch e), fun _ hp => nomatch hp⟩
    obtain ⟨v, hv, d⟩ := zip_look hnd (by rw [List.length_cons, List.length_cons, hlen]) ds1 y u e
    exact ⟨v, look_reverse (by rw [hlv]; exact hnd) hv, d⟩
  refine wpAny_mono (h c f cdv rfl rfl rfl rfl rfl ⟨H, by show dp + 1 + D ≤ 900; (first | lia | omega), by show un + 3 + 20 * D ≤ 9000; (first | lia | omega)⟩ ⟨rfl, ha, hb⟩ ⟨rfl, hk, rfl, rfl, rfl⟩ h₁ _ (fun fl s' => Q (match fl with | .ret v => v | _ => .none) s') ⟨ns, z, hg, K⟩ (fun _ _ _ n => n.elim) fun v h' tk' d A => ?_) (fun _ _ q => q) (fun _ _ e => e.elim)
  obtain ⟨i, t, rfl, p, B⟩ := d
  exact hQ i t h' tk' p (fun y o e1 e2 e => A y o (Nat.ne_of_lt (Heap.lt_size e)) e1 e2 (hk₁ y o e)) B
section
variable {c : Cx} {env : Env} {a b : Addr} {l : List (Str × SV)} {D : Nat}
theorem JI_callX {x : Str} {p pos : Pos} {e : Expr} {es : List Expr} {svs : List SV} {P : Int → Prop} {D' : Nat} (eo : EO c env) (o : c.Ok D) (X : XS c a b) (hs : ScL l) (hf : Stands x) (ha : ∀ ns z, Gd ns z → Js c env (kx a b ns z l) (e :: es) (.bx a b ns z :: svs)) (C : FncX c.w c.mean c.mg c.mb D' c.h₀ a b x svs P) (hD : D' ≤ D)
    (hx : env.kindOf x = some .globalImplicit := by rfl) (hd : (x == ("__debug__" : Str)) = false := by decide)
    (he : starEach (e :: es) env = (false, eval e env) :: starEach es env := by rfl) :
    JI c env a b l (.Call (.Name x p) (e :: es) [] pos) P := by
  rintro h tk Q ⟨ns, z, g, K⟩ hQ
  have H := o.hereAt K
  obtain ⟨f, ob, fd, h1, h2, h3⟩ := H.stands hf
  refine Call_Name rfl (Name_function_global eo.kind hx (loadGlobal_global (env := env) (by rw [eo.glob]; exact H.T.g) h1 ?_) hd)
  refine callWith_def h3 (ha ns z g pos h tk _ K fun vs h' tk' st ds => ⟨st _ _ h2, ?_⟩) he
  have od := o.dp
  have ou := o.un
  obtain ⟨m, KM⟩ := id (K.keeps st)
  have hsz : c.h₀.objs.size ≤ h'.objs.size := by
    obtain ⟨oL, es, ep, eL, _⟩ := KM.F.ns
    exact Nat.le_trans KM.F.above (Nat.le_of_lt (Heap.lt_size eL))
  refine C f c.dp c.un c.gd c.fr (St c.s h' tk') vs Q ns z h1 o.here KM.F.keep hsz X.na X.nb g (by first | (with_reducible assumption) | (with_reducible exact Nat.le_trans (by assumption) (by decide)) | (with_reducible exact b0 (by assumption)) | (with_reducible exact b1 (by assumption)) | (with_reducible exact b2 (by assumption)) | (with_reducible exact Int.le_of_lt (by assumption)) | (with_reducible exact Nat.le_of_lt (by assumption)) | (with_reducible exact Int.natCast_nonneg _) | (with_reducible exact Int.le_of_lt (Int.pow_pos (by decide))) | (with_reducible exact Int.pow_pos (by decide)) | (with_reducible exact Nat.lt_of_lt_of_le (by decide) (by assumption)) | (with_reducible exact Int.ne_of_gt (by assumption)) | lia | omega) (by first | (with_reducible assumption) | (with_reducible exact Nat.le_trans (by assumption) (by decide)) | (with_reducible exact b0 (by assumption)) | (with_reducible exact b1 (by assumption)) | (with_reducible exact b2 (by assumption)) | (with_reducible exact Int.le_of_lt (by assumption)) | (with_reducible exact Nat.le_of_lt (by assumption)) | (with_reducible exact Int.natCast_nonneg _) | (with_reducible exact Int.le_of_lt (Int.pow_pos (by decide))) | (with_reducible exact Int.pow_pos (by decide)) | (with_reducible exact Nat.lt_of_lt_of_le (by decide) (by assumption)) | (with_reducible exact Int.ne_of_gt (by assumption)) | lia | omega) ds fun i t h'' tk'' pi A B => ?_
  obtain ⟨ns', z', g', B'⟩ := B
  exact hQ i t h'' tk'' pi ⟨ns', z', g', (K.keeps st).turn X hs A B'⟩ ((Apt.of st).trans A)
theorem JTI_call3 {x : Str} {p pos : Pos} {e1 e2 e3 : Expr} {i1 i3 : Int} {P : Int → Prop} {D' : Nat} {r : Bool} (eo : EO c env) (o : c.Ok D) (hf : Stands x) (h1 : JI c env a b l e1 (fun i => i = i1)) (h2 : JI c env a b l e2 P) (h3 : JI c env a b l e3 (fun i => i = i3))
    (C : ∀ i, P i → c.fnc D' x [.i i1, .i i, .i i3] (.b r)) (hD : D' ≤ D)
    (hx : env.kindOf x = some .globalImplicit := by rfl) (hd : (x == ("__debug__" : Str)) = false := by decide)
    (s1 : starEach [e1, e2, e3] env = (false, eval e1 env) :: starEach [e2, e3] env := by rfl) (s2 : starEach [e2, e3] env = (false, eval e2 env) :: starEach [e3] env := by rfl) (s3 : starEach [e3] env = (false, eval e3 env) :: starEach [] env := by rfl)
    (he : ∀ whole, isTrue (.Call (.Name x p) [e1, e2, e3] [] pos) env whole = (do let v ← whole; standAt (Expr.Call (.Name x p) [e1, e2, e3] [] pos).pos; holding [v] (truthy v)) := by intro _; rfl) :
    JTI c env a b l (.Call (.Name x p) [e1, e2, e3] [] pos) (fun x => x = r) := by
  intro h tk Q K hQ
  obtain ⟨_, _, _, K0⟩ := id K
  have H := o.hereAt K0
  obtain ⟨f, ob, fd, g1, g2, g3⟩ := H.stands hf
  have gh : ∀ {h'}, XK c a b l h' → h'.get? f = some ob := fun {h'} K' => by
    obtain ⟨f', ob', fd', q1, q2, q3⟩ := o.here.stands hf
    cases Value.ref.inj (Option.some.inj (q1.symm.trans g1))
    obtain ⟨_, _, _, m', K''⟩ := K'
    obtain ⟨m0, KM0⟩ := K0
    have e1 := KM0.F.keep _ _ q2
    rw [g2] at e1
    cases e1
    exact K''.F.keep _ _ q2
  refine isTrue_plain (Call_Name rfl (Name_function_global eo.kind hx (loadGlobal_global (env := env) (by rw [eo.glob]; exact H.T.g) g1 ?_) hd)) (he _)
  refine callWith_def g3 ?_ s1
  rw [s1]
  refine spliced_cons (h1 h tk _ K fun j1 t1 h1 tk1 p1 K1 A1 => ?_)
  rw [s2]
  refine spliced_cons (h2 h1 tk1 _ K1 fun j2 t2 h2 tk2 p2 K2 A2 => ?_)
  rw [s3]
  refine spliced_cons (h3 h2 tk2 _ K2 fun j3 t3 g5 tk3 p3 K3 A3 => spliced_nil ⟨gh K3, ?_⟩)
  subst p1; subst p3
  obtain ⟨_, _, _, K3'⟩ := id K3
  have od := o.dp
  have ou := o.un
  refine C j2 p2 f c.dp c.un c.gd c.fr (St c.s g5 tk3) _ _ g1 (o.hereAt K3') (by first | (with_reducible assumption) | (with_reducible exact Nat.le_trans (by assumption) (by decide)) | (with_reducible exact b0 (by assumption)) | (with_reducible exact b1 (by assumption)) | (with_reducible exact b2 (by assumption)) | (with_reducible exact Int.le_of_lt (by assumption)) | (with_reducible exact Nat.le_of_lt (by assumption)) | (with_reducible exact Int.natCast_nonneg _) | (with_reducible exact Int.le_of_lt (Int.pow_pos (by decide))) | (with_reducible exact Int.pow_pos (by decide)) | (with_reducible exact Nat.lt_of_lt_of_le (by decide) (by assumption)) | (with_reducible exact Int.ne_of_gt (by assumption)) | lia | omega) (by first | (with_reducible assumption) | (with_reducible exact Nat.le_trans (by assumption) (by decide)) | (with_reducible exact b0 (by assumption)) | (with_reducible exact b1 (by assumption)) | (with_reducible exact b2 (by assumption)) | (with_reducible exact Int.le_of_lt (by assumption)) | (with_reducible exact Nat.le_of_lt (by assumption)) | (with_reducible exact Int.natCast_nonneg _) | (with_reducible exact Int.le_of_lt (Int.pow_pos (by decide))) | (with_reducible exact Int.pow_pos (by decide)) | (with_reducible exact Nat.lt_of_lt_of_le (by decide) (by assumption)) | (with_reducible exact Int.ne_of_gt (by assumption)) | lia | omega) ⟨⟨t1, rfl⟩, ⟨t2, rfl⟩, ⟨t3, rfl⟩, trivial⟩ fun v h4 tk4 st d => ?_
  cases d
  exact wpAny_truthy_bool (hQ r h4 tk4 rfl (K3.keeps st) (((A1.trans A2).trans A3).trans (.of st)))
theorem J_b0 {k : Know} {e1 : Expr} {n : Nat} {p pos : Pos} {ns : List Int} {z : Int} (h1 : J c env k e1 (.bx a b ns z))
    (hs : ∀ a u, subscripted (.Constant (.int 0) n p) false (.ref a) (.int 0 u) = operate [.ref a, .int 0 u] (getItem (.ref a) (.int 0 u)) := by intro _ _; with_unfolding_all rfl) (hg : ∀ a r, letTemporaryGo e1 (.ref a) r = pure () := by intro _ _; with_unfolding_all rfl) :
    ∀ h tk (Q : Value → Shared → Prop), Kn c k h → (∀ h' tk', h.StaysIn h' → BoxN h' a b ns z → Q (.ref b) (St c.s h' tk')) → c.wp (eval (.Subscript e1 (.Constant (.int 0) n p) pos) env) Q h tk := by
  intro h tk Q K hQ
  refine Subscript_ (h1 h tk _ K fun v h' tk' st d => wpAny_Constant_int ?_)
  obtain ⟨rfl, B⟩ := d
  obtain ⟨t, hl⟩ := B.1
  exact item_list (s := St c.s h' (tk' + 1)) hl (by decide) (by decide) rfl (hQ h' (tk' + 1) st B) (hs _ _) (hg _)
theorem J_b0l {k : Know} {e1 : Expr} {n : Nat} {p pos : Pos} {ns : List Int} {z : Int} (h1 : J c env k e1 (.bx a b ns z))
    (hs : ∀ a u, subscripted (.Constant (.int 0) n p) false (.ref a) (.int 0 u) = operate [.ref a, .int 0 u] (getItem (.ref a) (.int 0 u)) := by intro _ _; with_unfolding_all rfl) (hg : ∀ a r, letTemporaryGo e1 (.ref a) r = pure () := by intro _ _; with_unfolding_all rfl) :
    J c env k (.Subscript e1 (.Constant (.int 0) n p) pos) (.l ns) := fun h tk Q K hQ => J_b0 h1 hs hg h tk Q K fun h' tk' st B => hQ _ _ _ st ⟨b, rfl, B.2⟩
theorem J_b1 {k : Know} {e1 : Expr} {n : Nat} {p pos : Pos} {ns : List Int} {z : Int} (h1 : J c env k e1 (.bx a b ns z))
    (hs : ∀ a u, subscripted (.Constant (.int 1) n p) false (.ref a) (.int 1 u) = operate [.ref a, .int 1 u] (getItem (.ref a) (.int 1 u)) := by intro _ _; with_unfolding_all rfl) (hg : ∀ a r, letTemporaryGo e1 (.ref a) r = pure () := by intro _ _; with_unfolding_all rfl) :
    J c env k (.Subscript e1 (.Constant (.int 1) n p) pos) (.i z) := by
  intro h tk Q K hQ
  refine Subscript_ (h1 h tk _ K fun v h' tk' st d => wpAny_Constant_int ?_)
  obtain ⟨rfl, B⟩ := d
  obtain ⟨t, hl⟩ := B.1
  exact item_list (s := St c.s h' (tk' + 1)) hl (by decide) (by decide) rfl (hQ _ h' (tk' + 1) st ⟨t, rfl⟩) (hs _ _) (hg _)
theorem XB_set1 {p1 p2 p3 pos : Pos} {n : Nat} {e : Expr} {rest : List Stmt} {N : List (Str × SV) → Prop} {res : Heap → Value → Prop} (eo : EO c env) (X : XS c a b) (hs : ScL l) (hj : ∀ ns z, Gd ns z → ∃ r, 0 ≤ r ∧ r < 1000003 ∧ J c env (kx a b ns z l) e (.i r)) (hB : XB c env a b l rest N res)
    (hbx : env.kindOf "box" = some .local := by rfl) (hsw : swapsWith e (some (.Subscript (.Name "box" p1) (.Constant (.int 1) n p2) p3)) pos.line env = pure false := by rfl) :
    XB c env a b l (.Assign [.Subscript (.Name "box" p1) (.Constant (.int 1) n p2) p3] e pos :: rest) N res := by
  rintro h tk Q ⟨ns, z, g, K⟩ hn hr
  obtain ⟨r, r0, r1, j⟩ := hj ns z g
  have hbn : ∀ h tk (Q : Value → Shared → Prop), Kn c (kx a b ns z l) h → (∀ v h' tk', h.StaysIn h' → Den h' v (.bx a b ns z) → Q v (St c.s h' tk')) → c.wp (eval (.Name "box" p1) env) Q h tk := J_name (pos := p1) eo rfl hbx (by rw [X.cl]; rfl)
  refine wpAny_execs_cons (wpAny_Assign_Subscript (j h tk _ K fun v h1 tk1 st1 d1 => hbn h1 tk1 _ (K.keeps st1) fun v2 h2 tk2 st2 d2 => wpAny_Constant_int ?_) hsw)
  obtain ⟨t, rfl⟩ := d1
  obtain ⟨rfl, ⟨t', hl⟩, hb⟩ := d2
  have K2 := (K.keeps st1).keeps st2
  refine wpAny_setItem_list (s := St c.s h2 (tk2 + 1)) hl (by decide) (by decide) (by show (1 : Int) < 2; decide) fun h3 hl3 hs3 => ?_
  have hne := K2.box.live.2.2
  have A : Apt a b h2 h3 := fun y o e1 _ e => (hs3.2 y e1).trans e
  have B3 : BoxN h3 a b ns r := by
    obtain ⟨us, m, e, hi⟩ := hb
    exact ⟨⟨t, hl3⟩, us, m, (hs3.2 b (Ne.symm hne)).trans e, hi⟩
  have A03 : Ap c a b h h3 := (((Apt.of st1).trans (.of st2)).trans A).ap
  exact hB h3 (tk2 + 1) Q ⟨ns, r, ⟨g.1, r0, r1⟩, K2.turn X hs A B3⟩ (fun l' h4 tk4 n4 K4 A4 => hn l' h4 tk4 n4 K4 (A03.trans A4)) fun v h4 tk4 d4 A4 => hr v h4 tk4 d4 (A03.trans A4)
theorem pop_front {h : Heap} {tk : Nat} {i : Int} {ns : List Int} {u : Tok} {Q : Value → Shared → Prop} (hl : LAt h b (i :: ns)) (hlen : ns.length ≤ 1000) (hQ : ∀ t h', Heap.SameBut b h h' → LAt h' b ns → Q (.int i t) (St c.s h' tk)) :
    c.wp (call (.builtin "list.pop") [.ref b, .int 0 u]) Q h tk := by
  obtain ⟨us, m, e, hi⟩ := hl
  cases hi with
  | cons _ t hi =>
  rename_i us
  have hls := hi.length
  refine call_meets PySem.F.slot_list_pop ⟨_, e, rfl⟩ PySem.F.entry_list_pop (PySem.F.args_list_pop_2 _ _) (PySem.MeetsSeq.list_pop_at b (Value.int i t :: us).toArray m 0 u 0 (.int i t) (by decide) (by simp [seqIndex?]) (by simp) (by rw [List.size_toArray, List.length_cons, hls, sizeLine_eq]; (first | lia | omega))) ⟨e, ?_⟩
  have hm := mapSeq_erase (Value.int i t :: us).toArray m 0 (by simp)
  refine hQ t _ (Heap.SameBut.update ..) ⟨us, m + 1, ?_, hi⟩
  have e' : (St c.s h tk).heap.get? b = some { cls := .type "list", data := .seq (Value.int i t :: us).toArray m } := e
  rw [Heap.get?_update_self _ e' (by rw [hm]; rfl), hm]
  rfl
end

theorem bits_lt {i : Int} {k : Nat} (h : i.natAbs < 2 ^ k) : Builtin.Int.intBits i ≤ k := by
  unfold Builtin.Int.intBits
  split
  · exact Nat.zero_le _
  · rename_i hne
    have := (Nat.log2_lt (n := i.natAbs) (k := k) (by simpa using hne)).mpr h
    (first | lia | omega)
section
variable {c : Cx} {env : Env} {a b : Addr} {l : List (Str × SV)} {D : Nat}
theorem JT.use {k : Know} {e : Expr} {x : Bool} {h : Heap} {tk : Nat} {Q : Bool → Shared → Prop} (j : JT c env k e x) (K : Kn c k h) (hQ : ∀ h' tk', h.StaysIn h' → Q x (St c.s h' tk')) : c.wp (isTrue e env (eval e env)) Q h tk := j h tk Q K hQ
theorem J.use {k : Know} {e : Expr} {x : SV} {h : Heap} {tk : Nat} {Q : Value → Shared → Prop} (j : J c env k e x) (K : Kn c k h) (hQ : ∀ v h' tk', h.StaysIn h' → Den h' v x → Q v (St c.s h' tk')) : c.wp (eval e env) Q h tk := j h tk Q K hQ
theorem wp_pop {k : Know} {e0 : Expr} {ap cp p : Pos} {n : Nat} {i z : Int} {ns : List Int} {pl : Sem Bool} (hlen : ns.length ≤ 1000) (he0 : ∀ h tk (Q : Value → Shared → Prop), Kn c k h → (∀ h' tk', h.StaysIn h' → BoxN h' a b (i :: ns) z → Q (.ref b) (St c.s h' tk')) → c.wp (eval e0 env) Q h tk)
    (he : eval (.Call (.Attribute e0 "pop" ap) [.Constant (.int 0) n p] [] cp) env = (do
      let ov ← eval e0 env
      standAt ap.atName
      let (f, first) ← holding [ov] (getMethod ov "pop" pl)
      callWith cp f first (backTo cp (starEach [.Constant (.int 0) n p] env)) []) := by rfl)
    (hs : starEach [.Constant (.int 0) n p] env = (false, eval (.Constant (.int 0) n p) env) :: starEach [] env := by rfl) :
    ∀ h tk (Q : Value → Shared → Prop), Kn c k h → (∀ t h' tk', Apt a b h h' → BoxN h' a b ns z → Q (.int i t) (St c.s h' tk')) → c.wp (eval (.Call (.Attribute e0 "pop" ap) [.Constant (.int 0) n p] [] cp) env) Q h tk := by
  intro h tk Q K hQ
  refine MethodCall_ (he0 h tk _ K fun h1 tk1 st B => ?_) he
  obtain ⟨us, m, e, hi⟩ := B.2
  refine getMethod_builtin (s := St c.s h1 tk1) ⟨_, e, rfl⟩ PySem.F.plainAttrs_list PySem.F.slot_list_pop PySem.F.type_list_pop (fun y q => by cases q; exact ⟨_, e, rfl⟩) ?_
  refine callWith_method1 (first := [.ref b]) ?_ hs rfl
  rw [hs]
  refine spliced_cons (wpAny_Constant_int (k := n) (pos := p) (spliced_nil ?_))
  refine pop_front (c := c) (tk := tk1 + 1) B.2 hlen fun t h2 hs2 hl2 => ?_
  have hne := B.live.2.2
  obtain ⟨t', o, q1, q2⟩ := B.1
  exact hQ t h2 (tk1 + 1) (fun y o _ e2 e => (hs2.2 y e2).trans (st y o e)) ⟨⟨t', o, (hs2.2 a hne).trans q1, q2⟩, hl2⟩
end
section
variable {w : World} {mean : ExcName → Option Value} {mg mb : Str → Option Value} {H0 : Heap} {a b : Addr}
theorem fnc_law_take {m : Int} (hm : 0 < m) : FncX w mean mg mb 1 H0 a b "_law_take" [.i m] (fun i => 0 ≤ i ∧ i < m) := by
  refine' fncX_intro ["many"] ?hf ?hbind ?hloc ?hnd ?hlen ?hcell ?c2 ?c3 ?c4 ?_
  ((case hf => exact rfl); (case hcell => decide); (case hloc => decide); (case hnd => decide); (case hlen => exact rfl); (case c2 => exact rfl); (case c3 => exact rfl); (case c4 => exact rfl))
  (case hbind => (intro s _ _ _ vals hl; obtain ⟨v1, v2, hv⟩ := len2 hl; subst hv; exact BindsTo.of_eq rfl))
  intro c _ _ hw hmean hmg hmb hh0 o X eo
  have hf3 : ∀ q, c.cl.lookup q = none := fun q => by rw [X.cl]; rfl
  have hmod : ∀ r : Int, 0 ≤ r % m ∧ r % m < m := fun r => ⟨Int.emod_nonneg _ (by first | (with_reducible assumption) | (with_reducible exact Nat.le_trans (by assumption) (by decide)) | (with_reducible exact b0 (by assumption)) | (with_reducible exact b1 (by assumption)) | (with_reducible exact b2 (by assumption)) | (with_reducible exact Int.le_of_lt (by assumption)) | (with_reducible exact Nat.le_of_lt (by assumption)) | (with_reducible exact Int.natCast_nonneg _) | (with_reducible exact Int.le_of_lt (Int.pow_pos (by decide))) | (with_reducible exact Int.pow_pos (by decide)) | (with_reducible exact Nat.lt_of_lt_of_le (by decide) (by assumption)) | (with_reducible exact Int.ne_of_gt (by assumption)) | lia | omega), Int.emod_lt_of_pos _ hm⟩
  rintro h tk Q ⟨ns, z, g, K⟩ hn hr
  have hll : ns.length ≤ 30 := g.1
  refine wpAny_execs_cons (wpAny_If (JT.use (JT_cmp (J_len eo o free_len (J_b0l (ns := ns) (z := z) (J_name eo rfl rfl (hf3 _))) (by first | (with_reducible assumption) | (with_reducible exact Nat.le_trans (by assumption) (by decide)) | (with_reducible exact b0 (by assumption)) | (with_reducible exact b1 (by assumption)) | (with_reducible exact b2 (by assumption)) | (with_reducible exact Int.le_of_lt (by assumption)) | (with_reducible exact Nat.le_of_lt (by assumption)) | (with_reducible exact Int.natCast_nonneg _) | (with_reducible exact Int.le_of_lt (Int.pow_pos (by decide))) | (with_reducible exact Int.pow_pos (by decide)) | (with_reducible exact Nat.lt_of_lt_of_le (by decide) (by assumption)) | (with_reducible exact Int.ne_of_gt (by assumption)) | lia | omega)) J_int op_gt) K fun h1 tk1 st1 => ?_))
  cases ns with
  | nil =>
    have e : decide ((0 : Int) < (([] : List Int).length : Int)) = false := by decide
    rw [e]
    refine wpAny_execs_nil ?_
    refine (XB_set1 (l := [("many", .i m)]) (N := fun _ => False) eo X rfl (fun ns z g => ⟨(z * 4099 + 12301) % 1000003, by (first | lia | omega), by (first | lia | omega), J_bin (J_bin (J_bin (J_b1 (J_name eo rfl rfl (hf3 _))) J_int (op_mul ?_)) J_int op_add) J_int (op_modP (by decide))⟩) (XB_ret (P := fun i => 0 ≤ i ∧ i < m) (JI_of fun ns z g => ⟨z / 16 % m, hmod _, J_bin (J_bin (J_b1 (J_name eo rfl rfl (hf3 _))) J_int (op_divP (by decide) (by decide))) (J_name eo rfl rfl (hf3 _)) (op_modP hm)⟩) fun i t h p B => ⟨i, t, rfl, p, B⟩)) h1 tk1 Q ⟨[], z, g, K.keeps st1⟩ (fun _ _ _ n => n.elim) fun v h2 tk2 d A => hr v h2 tk2 d ((Apt.of st1).ap.trans A)
    obtain ⟨_, _, _⟩ := g
    exact .of_left (bits_small (by first | (with_reducible assumption) | (with_reducible exact Nat.le_trans (by assumption) (by decide)) | (with_reducible exact b0 (by assumption)) | (with_reducible exact b1 (by assumption)) | (with_reducible exact b2 (by assumption)) | (with_reducible exact Int.le_of_lt (by assumption)) | (with_reducible exact Nat.le_of_lt (by assumption)) | (with_reducible exact Int.natCast_nonneg _) | (with_reducible exact Int.le_of_lt (Int.pow_pos (by decide))) | (with_reducible exact Int.pow_pos (by decide)) | (with_reducible exact Nat.lt_of_lt_of_le (by decide) (by assumption)) | (with_reducible exact Int.ne_of_gt (by assumption)) | lia | omega))
  | cons i ns =>
    have e : decide ((0 : Int) < ((i :: ns).length : Int)) = true := decide_eq_true (by rw [List.length_cons]; (first | lia | omega))
    rw [e]
    simp only [if_true]
    rw [List.length_cons] at hll
    have K1 := K.keeps st1
    refine wpAny_execs_cons (wpAny_Return_some (wpAny_BinOp (wp_pop (pl := _) (by first | (with_reducible assumption) | (with_reducible exact Nat.le_trans (by assumption) (by decide)) | (with_reducible exact b0 (by assumption)) | (with_reducible exact b1 (by assumption)) | (with_reducible exact b2 (by assumption)) | (with_reducible exact Int.le_of_lt (by assumption)) | (with_reducible exact Nat.le_of_lt (by assumption)) | (with_reducible exact Int.natCast_nonneg _) | (with_reducible exact Int.le_of_lt (Int.pow_pos (by decide))) | (with_reducible exact Int.pow_pos (by decide)) | (with_reducible exact Nat.lt_of_lt_of_le (by decide) (by assumption)) | (with_reducible exact Int.ne_of_gt (by assumption)) | lia | omega) (J_b0 (J_name eo rfl rfl (hf3 _))) (by rfl) (by rfl) h1 tk1 _ K1 fun t h2 tk2 A2 B2 => ?_)))
    have K2 := Kn.turn (l := [("many", .i m)]) X rfl K1 A2 B2
    refine J.use (x := .i m) (J_name eo rfl rfl (hf3 _)) K2 fun v h3 tk3 st3 d3 => ?_
    refine op_modP hm h3 tk3 _ _ _ ⟨t, rfl⟩ d3 fun v h4 tk4 st4 d4 => ?_
    obtain ⟨t', rfl⟩ := d4
    exact hr _ h4 tk4 ⟨_, t', rfl, hmod _, ns, z, ⟨by (first | lia | omega), g.2⟩, ((K2.keeps st3).keeps st4).box⟩ (((Apt.of st1).trans A2).trans ((Apt.of st3).trans (.of st4))).ap
end

section
variable {w : World} {mean : ExcName → Option Value} {mg mb : Str → Option Value} {H0 : Heap} {a b : Addr}
theorem shl_drawn1 {c : Cx} {y : Int} {m : Nat} (h0 : 0 ≤ y) (h1 : y < m) (hm : m ≤ 80) : ∃ r, (1 ≤ r ∧ r < 2 ^ 80) ∧ Op c (binaryOp .LShift) (.i 1) (.i y) (.i r) := by
  obtain ⟨k, rfl⟩ := Int.eq_ofNat_of_zero_le h0
  exact ⟨2 ^ k, ⟨Int.pow_pos (by decide), pow_lt_pow (by  lia)⟩, one_shl (by  lia)⟩
theorem shl_drawn {c : Cx} {y : Int} {m : Nat} (h0 : 0 ≤ y) (h1 : y < m) (hm : m ≤ 80) : ∃ r, (0 ≤ r ∧ r < 2 ^ 80) ∧ Op c (binaryOp .LShift) (.i 1) (.i y) (.i r) :=
  let ⟨r, h2, h3⟩ := shl_drawn1 h0 h1 hm; ⟨r, ⟨by lia, h2.2⟩, h3⟩
noncomputable abbrev lw (n : Nat) (f F : Int) : List (Str × SV) := [("w", .i n), ("form", .i f), ("found", .i F)]
noncomputable def DF (n : Nat) (f : Int) (M : Int) (l' : List (Str × SV)) : Prop := ∃ F : Int, 0 ≤ F ∧ F < M ∧ l' = lw n f F
noncomputable def Bw (M r : Int) : Prop := 0 ≤ r ∧ r < M
theorem fnc_law_drawn {n : Nat} (hn : 2 ≤ n) (hn9 : n ≤ 9) : FncX w mean mg mb 2 H0 a b "_law_drawn" [.i n] (fun i => -(2 ^ 82) < i ∧ i < 2 ^ 82) := by
  refine' fncX_intro ["w"] ?hf ?hbind ?hloc ?hnd ?hlen ?hcell ?c2 ?c3 ?c4 ?_
  ((case hf => exact rfl); (case hcell => decide); (case hloc => decide); (case hnd => decide); (case hlen => exact rfl); (case c2 => exact rfl); (case c3 => exact rfl); (case c4 => exact rfl))
  (case hbind => (intro s _ _ _ vals hl; obtain ⟨v1, v2, hv⟩ := len2 hl; subst hv; exact BindsTo.of_eq rfl))
  intro c _ _ hw hmean hmg hmb hh0 o X eo
  have hf3 : ∀ q, c.cl.lookup q = none := fun q => by rw [X.cl]; rfl
  have h5n : IntMulOk 5 n := .of_left (by decide)
  have e5n : (5 : Int) * n = ((5 * n : Nat) : Int) := by lia
  refine XB_asg2 (P1 := fun i => 0 ≤ i ∧ i < 5) (P2 := fun i => i = 0) eo X (JI_callX eo o X rfl st_law_take (fun ns z g => Js_cons (J_name eo rfl rfl (hf3 _)) (Js_cons J_int Js_nil)) (fnc_law_take (by decide)) (by decide)) (JI_of fun _ _ _ => ⟨0, rfl, J_int⟩) fun f F0 hf0 hF0 => ?_
  subst hF0
  refine XB_for (fun i => DF n f (2 ^ (n * i))) (lw n f 0) eo X (ItX_range (PI := fun i => 0 ≤ i ∧ i < 10) eo o free_range (JI_callX eo o X rfl st_law_take (fun ns z g => Js_cons (J_name eo rfl rfl (hf3 _)) (Js_cons J_int Js_nil)) (fnc_law_take (by decide)) (by decide)) (fun i h => by lia)) ⟨rfl, rfl, rfl, trivial⟩ ⟨0, by decide, by rw [Nat.mul_zero]; decide, rfl⟩ ?_ ?_ ?_
  · rintro i l' ⟨F, _, _, rfl⟩; rfl
  · rintro nn val ⟨⟨i0, hi0, rfl⟩, rfl⟩ i l' hi ⟨F, h0, h1, rfl⟩
    have hni : n * i ≤ 81 := Nat.mul_le_mul hn9 (show i ≤ 9 by lia)
    have hb : Builtin.Int.intBits F ≤ n * i := bits_lt (by
      have := kbt_cast (n * i)
      lia)
    refine XB_asg (P := fun r => 0 ≤ r ∧ r < 2 ^ (n * (i + 1))) eo X (JI_bin (P1 := fun x => x = F * 2 ^ n) (P2 := fun y => 0 ≤ y ∧ y < 2 ^ n) (JI_of fun _ _ _ => ⟨_, rfl, J_bin (J_name eo rfl rfl (hf3 _)) (J_name eo rfl rfl (hf3 _)) (op_shlN (by  lia))⟩) (JI_callX eo o X rfl st_law_take (fun ns z g => Js_cons (J_name eo rfl rfl (hf3 _)) (Js_cons (J_bin J_int (J_name eo rfl rfl (hf3 _)) (one_shl (by  lia))) Js_nil)) (fnc_law_take (Int.pow_pos (by decide))) (by decide)) ?_) fun r hr => ?_
    · rintro x y rfl ⟨hy0, hy1⟩
      have hP : (0 : Int) < 2 ^ n := Int.pow_pos (by decide)
      have e1 : (2 : Int) ^ (n * (i + 1)) = 2 ^ (n * i) * 2 ^ n := by rw [Nat.mul_succ, Int.pow_add]
      have e2 : (F + 1) * 2 ^ n ≤ 2 ^ (n * i) * 2 ^ n := Int.mul_le_mul_of_nonneg_right (by  lia) (Int.le_of_lt hP)
      have e3 : 0 ≤ F * 2 ^ n := Int.mul_nonneg h0 (Int.le_of_lt hP)
      rw [Int.add_mul, Int.one_mul] at e2
      exact ⟨F * 2 ^ n + y, ⟨by lia, by rw [e1]; lia⟩, op_add⟩
    · exact XB_end ⟨r, hr.1, hr.2, rfl⟩ ⟨rfl, rfl, rfl, trivial⟩
  rintro nn val ⟨⟨i0, hi0, rfl⟩, rfl⟩ l' ⟨F, h0, h1, rfl⟩
  have h2 : F < 2 ^ 81 := by
    have := pow_le_pow (Nat.mul_le_mul hn9 (show i0.toNat ≤ 9 by lia))
    exact Int.lt_of_lt_of_le h1 this
  clear h1
  have h80 : (2 : Int) ^ 80 + 1 < 2 ^ 81 := by decide
  refine XB_if (P := fun _ => True) (N1 := DF n f (2 ^ 81)) (JTI_of fun _ _ _ => ⟨_, trivial, JT_cmp (J_name eo rfl rfl (hf3 _)) J_int op_eq⟩) (XB_asg (P := Bw (2 ^ 81)) eo X (JI_bin (P1 := fun x => x = 1) (P2 := fun y => 0 ≤ y ∧ y < 5 * n) (JI_of fun _ _ _ => ⟨1, rfl, J_int⟩) (JI_callX eo o X rfl st_law_take (fun ns z g => Js_cons (J_name eo rfl rfl (hf3 _)) (Js_cons (J_bin J_int (J_name eo rfl rfl (hf3 _)) (op_mul h5n)) Js_nil)) (fnc_law_take (by  lia)) (by decide)) (fun x y e h => by rw [e]; obtain ⟨r, h3, h4⟩ := shl_drawn (c := c) (m := 5 * n) h.1 (by  lia) (by  lia); exact ⟨r, ⟨h3.1, by lia⟩, h4⟩)) fun r hr => XB_end (l1 := lw n f r) ⟨r, hr.1, hr.2, rfl⟩ ⟨rfl, rfl, rfl, trivial⟩) ⟨F, h0, h2, rfl⟩ ?_
  rintro l' ⟨F, h0, h2, rfl⟩
  refine XB_if (P := fun _ => True) (N1 := DF n f (2 ^ 81)) (JTI_of fun _ _ _ => ⟨_, trivial, JT_cmp (J_name eo rfl rfl (hf3 _)) J_int op_eq⟩) (XB_asg (P := Bw (2 ^ 81)) eo X (JI_bin (P1 := fun r => 0 ≤ r ∧ r < 2 ^ 80) (P2 := fun y => y = 1) (JI_bin (P1 := fun x => x = 1) (P2 := fun y => 0 ≤ y ∧ y < 5 * n) (JI_of fun _ _ _ => ⟨1, rfl, J_int⟩) (JI_callX eo o X rfl st_law_take (fun ns z g => Js_cons (J_name eo rfl rfl (hf3 _)) (Js_cons (J_bin J_int (J_name eo rfl rfl (hf3 _)) (op_mul h5n)) Js_nil)) (fnc_law_take (by  lia)) (by decide)) (fun x y e h => by rw [e]; exact shl_drawn (m := 5 * n) h.1 (by  lia) (by  lia))) (JI_of fun _ _ _ => ⟨1, rfl, J_int⟩) (fun x y h e => by rw [e]; exact ⟨x + 1, ⟨by lia, by lia⟩, op_add⟩)) fun r hr => XB_end (l1 := lw n f r) ⟨r, hr.1, hr.2, rfl⟩ ⟨rfl, rfl, rfl, trivial⟩) ⟨F, h0, h2, rfl⟩ ?_
  rintro l' ⟨F, h0, h2, rfl⟩
  refine XB_if (P := fun _ => True) (N1 := DF n f (2 ^ 81)) (JTI_of fun _ _ _ => ⟨_, trivial, JT_cmp (J_name eo rfl rfl (hf3 _)) J_int op_eq⟩) (XB_asg (P := Bw (2 ^ 81)) eo X (JI_bin (P1 := fun r => 1 ≤ r ∧ r < 2 ^ 80) (P2 := fun y => y = 1) (JI_bin (P1 := fun x => x = 1) (P2 := fun y => 0 ≤ y ∧ y < 5 * n) (JI_of fun _ _ _ => ⟨1, rfl, J_int⟩) (JI_callX eo o X rfl st_law_take (fun ns z g => Js_cons (J_name eo rfl rfl (hf3 _)) (Js_cons (J_bin J_int (J_name eo rfl rfl (hf3 _)) (op_mul h5n)) Js_nil)) (fnc_law_take (by  lia)) (by decide)) (fun x y e h => by rw [e]; exact shl_drawn1 (m := 5 * n) h.1 (by  lia) (by  lia))) (JI_of fun _ _ _ => ⟨1, rfl, J_int⟩) (fun x y h e => by rw [e]; exact ⟨x - 1, ⟨by lia, by lia⟩, op_sub⟩)) fun r hr => XB_end (l1 := lw n f r) ⟨r, hr.1, hr.2, rfl⟩ ⟨rfl, rfl, rfl, trivial⟩) ⟨F, h0, h2, rfl⟩ ?_
  rintro l' ⟨F, h0, h2, rfl⟩
  refine XB_ret (P := fun i => -(2 ^ 82) < i ∧ i < 2 ^ 82) (JI_if (PT := fun _ => True) (JTI_cmp (P1 := fun y => 0 ≤ y ∧ y < 2) (P2 := fun y => y = 0) (JI_callX eo o X rfl st_law_take (fun ns z g => Js_cons (J_name eo rfl rfl (hf3 _)) (Js_cons J_int Js_nil)) (fnc_law_take (by decide)) (by decide)) (JI_of fun _ _ _ => ⟨0, rfl, J_int⟩) fun x y _ _ => ⟨_, trivial, op_eq⟩) (JI_of fun _ _ _ => ⟨0 - F, ⟨by lia, by lia⟩, J_bin J_int (J_name eo rfl rfl (hf3 _)) op_sub⟩) (JI_of fun _ _ _ => ⟨F, ⟨by lia, by lia⟩, (J_name eo rfl rfl (hf3 _))⟩)) fun i t h p B => ⟨i, t, rfl, p, B⟩
end

theorem getD_abs {us : List Int} {i : Nat} (hi : i < us.length) : (us.map fun x => (x.natAbs : Int)).getD i 0 = ((us.getD i 0).natAbs : Int) := by simp [List.getD_eq_getElem?_getD, hi]
noncomputable def NewBox (h₀ h : Heap) (v : Value) : Prop := ∃ a b, v = .ref a ∧ h₀.get? a = none ∧ h₀.get? b = none ∧ BoxG h a b
theorem NewBox.old {hb hb' h : Heap} {v : Value} (st : hb.StaysIn hb') : NewBox hb' h v → NewBox hb h v := fun ⟨a, b, e, f, g, B⟩ => ⟨a, b, e, old_none st f, old_none st g, B⟩
section
variable {c : Cx} {env : Env} {l : List (Str × SV)} {D : Nat}
theorem BoxG.keeps {h h' : Heap} {a b : Addr} (B : BoxG h a b) (k : Seqs h h') : BoxG h' a b :=
  let ⟨ns, x, g, B⟩ := B; ⟨ns, x, g, (Den.mono k (v := .ref a) (x := .bx a b ns x) ⟨rfl, B⟩).2⟩
theorem B_enter {p pos : Pos} {e : Expr} {rest : List Stmt} {res : Heap → Value → Prop} (eo : EO c env) (hcl : c.cl = []) (hj : JR c env ⟨true, l, none⟩ e NewBox) (hB : ∀ a b, XS c a b → XB c env a b l rest (fun _ => False) res)
    (hx : env.kindOf "box" = some .local := by rfl) (hs : swapsWith e (some (.Name "box" p)) pos.line env = pure false := by rfl) : B c env ⟨true, l, none⟩ (.Assign [.Name "box" p] e pos :: rest) none res := by
  intro h tk Q K hn hr
  refine wpAny_execs_cons (wpAny_Assign_Name (hj h tk _ K fun v h1 tk1 st ⟨a, b, e1, f1, f2, B⟩ => ?_) hs)
  subst e1
  obtain ⟨m, K1⟩ := K.keeps st
  refine wpAny_storeName_local hx (by rw [eo.loc]; exact K1.F.ns) (fun h2 hn2 hs2 => ?_) (by rw [eo.kind]; rfl)
  rw [eo.loc] at hn2 hs2
  obtain ⟨m0, K0⟩ := id K
  have hB2 := B.keeps (seqs_set K1.F.ns hs2)
  obtain ⟨ns, z, g, B2⟩ := hB2
  obtain ⟨ns1, z1, g1, B1⟩ := B
  have hnone : ∀ y, h.get? y = none → c.h₀.get? y = none := fun y q => none_old K0.F.keep q
  have X : XS c a b := ⟨hcl, hnone a f1, hnone b f2⟩
  obtain ⟨_, K1u⟩ := Kn.unst ⟨m, K1⟩
  have hF := K1.F.set hn2 hs2
  have K2 : Kn c (kx a b ns z l) h2 := by
    refine ⟨_, hF, fun y sv e => ?_, (fun _ _ _ e => nomatch e), fun p hp => by rw [hcl] at hp; cases hp⟩
    rw [List.lookup_cons] at e
    cases hy : y == ("box" : Str) with
    | true =>
      rw [hy] at e; cases e
      exact ⟨.ref a, by unfold Held; rw [hcl]; exact if_pos (beq_iff_eq.mp hy), rfl, B2⟩
    | false =>
      rw [hy] at e
      obtain ⟨v, hv, d⟩ := K1.l y sv e
      have hne : y ≠ ("box" : Str) := fun q => by rw [q] at hy; cases hy
      refine ⟨v, ?_, (d.keeps hF.keep)⟩
      unfold Held at hv ⊢
      rw [hcl] at hv ⊢
      exact (if_neg hne).trans hv
  have st2 : StB c ⟨true, l, none⟩ h h2 := (StB.of st).trans (stb_set (k := ⟨true, l, none⟩) hs2) (.inl rfl)
  refine hB a b X h2 (tk1 + 1) Q ⟨ns, z, g, K2⟩ (fun _ _ _ n => n.elim) fun v h3 tk3 d3 A3 => hr v h3 tk3 (fun y o e0 e1 e2 e => A3 y o e0 (fun q => ?_) (fun q => ?_) (st2 y o e0 e1 e2 e)) d3
  · exact none_at f1 q e
  · exact none_at f2 q e
theorem JR_newbox {e1 : Expr} {n : Nat} {p pos : Pos} {i : Int} {ms : List Int} (h1 : JN c env ⟨true, l, none⟩ e1 ms) (hg : Gd ms i) (hs1 : starEach [e1, .Constant (.int i) n p] env = (false, eval e1 env) :: starEach [.Constant (.int i) n p] env := by rfl) (hs2 : starEach [.Constant (.int i) n p] env = (false, eval (.Constant (.int i) n p) env) :: starEach [] env := by rfl) :
    JR c env ⟨true, l, none⟩ (.List [e1, .Constant (.int i) n p] pos) NewBox := by
  intro h tk Q K hQ
  refine List_ ?_
  rw [hs1]
  refine spliced_cons (h1 h tk _ K fun b h1 tk1 st hb hl => ?_)
  rw [hs2]
  refine spliced_cons (wpAny_Constant_int (k := n) (pos := p) (spliced_nil ?_))
  refine wpAny_newObj_type (hQ _ _ (tk1 + 1) (strans st (stays_push _ _)) ⟨h1.objs.size, b, rfl, fresh_after st, hb, ms, i, hg, ⟨_, _, Heap.get?_push_size _ rfl, rfl, _, rfl⟩, hl.mono (.of_stays (stays_push _ _))⟩) ?_
  show 2 ≤ sizeLine
  decide
end
section
variable {w : World} {mean : ExcName → Option Value} {mg mb : Str → Option Value}
theorem fnc_law_box {ms : List Int} (hlen : ms.length ≤ 63) : FncR w mean mg mb 2 "_law_box" [.l ms] NewBox := by
  refine' fnc_intro ["script"] ?hf ?hbind ?hloc ?hnd ?hlen ?hcell ?c2 ?c3 ?c4 ?_
  ((case hf => exact rfl); (case hcell => decide); (case hloc => decide); (case hnd => decide); (case hlen => exact rfl); (case c2 => exact rfl); (case c3 => exact rfl); (case c4 => exact rfl))
  (case hbind => (intro s _ _ _ vals hl; obtain ⟨v1, hv⟩ := List.length_eq_one_iff.mp hl; subst hv; exact BindsTo.of_eq rfl))
  intro c _ _ o hcl eo
  have hf3 : ∀ q, c.cl.lookup q = none := fun q => by rw [hcl]; rfl
  have htl : (ms.take (30 : Int).toNat).length ≤ 30 := by rw [List.length_take]; exact Nat.min_le_left _ _
  refine B_enter eo hcl (JR_newbox (ms := (ms.take (30 : Int).toNat).map fun x => (x.natAbs : Int)) (JN_of_comp ?_) ⟨by rw [List.length_map]; exact htl, by decide, by decide⟩) (fun a b X => ?_)
  · rw [List.length_map]
    refine JR_comp (fun i _ _ y => ∃ t, y = .int (((ms.take (30 : Int).toNat).map fun x => (x.natAbs : Int)).getD i 0) t) [] o eo (Src_list (JN.j (JN_upto (J_name eo rfl rfl (hf3 _)) J_int (by decide) (by first | (with_reducible assumption) | (with_reducible exact Nat.le_trans (by assumption) (by decide)) | (with_reducible exact b0 (by assumption)) | (with_reducible exact b1 (by assumption)) | (with_reducible exact b2 (by assumption)) | (with_reducible exact Int.le_of_lt (by assumption)) | (with_reducible exact Nat.le_of_lt (by assumption)) | (with_reducible exact Int.natCast_nonneg _) | (with_reducible exact Int.le_of_lt (Int.pow_pos (by decide))) | (with_reducible exact Int.pow_pos (by decide)) | (with_reducible exact Nat.lt_of_lt_of_le (by decide) (by assumption)) | (with_reducible exact Int.ne_of_gt (by assumption)) | lia | omega)))) (by first | (with_reducible assumption) | (with_reducible exact Nat.le_trans (by assumption) (by decide)) | (with_reducible exact b0 (by assumption)) | (with_reducible exact b1 (by assumption)) | (with_reducible exact b2 (by assumption)) | (with_reducible exact Int.le_of_lt (by assumption)) | (with_reducible exact Nat.le_of_lt (by assumption)) | (with_reducible exact Int.natCast_nonneg _) | (with_reducible exact Int.le_of_lt (Int.pow_pos (by decide))) | (with_reducible exact Int.pow_pos (by decide)) | (with_reducible exact Nat.lt_of_lt_of_le (by decide) (by assumption)) | (with_reducible exact Int.ne_of_gt (by assumption)) | lia | omega) (fun _ _ _ _ _ r _ => r) (fun i hi c' o' q1 _ _ _ _ eo' => ?_) (fun y sv e => nomatch e) (fun i y v e => hf3 y) (by rw [hcl]; rfl)
    rw [getD_abs hi]
    exact J_abs eo' o' free_abs (J_name eo' rfl rfl (by rw [q1]; exact hf3 _))
  · refine XB_for (fun _ l' => l' = []) [] eo X (ItX_new fun ns z g => JN_upto (J_name eo rfl rfl (hf3 _)) J_int (by decide) (by first | (with_reducible assumption) | (with_reducible exact Nat.le_trans (by assumption) (by decide)) | (with_reducible exact b0 (by assumption)) | (with_reducible exact b1 (by assumption)) | (with_reducible exact b2 (by assumption)) | (with_reducible exact Int.le_of_lt (by assumption)) | (with_reducible exact Nat.le_of_lt (by assumption)) | (with_reducible exact Int.natCast_nonneg _) | (with_reducible exact Int.le_of_lt (Int.pow_pos (by decide))) | (with_reducible exact Int.pow_pos (by decide)) | (with_reducible exact Nat.lt_of_lt_of_le (by decide) (by assumption)) | (with_reducible exact Int.ne_of_gt (by assumption)) | lia | omega)) trivial rfl (fun i l' e => by rw [e]; rfl) (fun nn val hv i l' hi e => ?_) (fun nn val hv l' e => ?_)
    · rw [e, hv.2]
      refine XB_set1 eo X rfl (fun ns z g => ⟨(z * 37 + ((ms.take (30 : Int).toNat).getD i 0).natAbs) % 1000003, by (first | lia | omega), by (first | lia | omega), J_bin (J_bin (J_bin (J_b1 (J_name eo rfl rfl (hf3 _))) J_int (op_mul ?_)) (J_abs eo o free_abs (J_name eo rfl rfl (hf3 _))) op_add) J_int (op_modP (by decide))⟩) (XB_end rfl trivial)
      obtain ⟨_, _, _⟩ := g
      exact .of_left (bits_small (by first | (with_reducible assumption) | (with_reducible exact Nat.le_trans (by assumption) (by decide)) | (with_reducible exact b0 (by assumption)) | (with_reducible exact b1 (by assumption)) | (with_reducible exact b2 (by assumption)) | (with_reducible exact Int.le_of_lt (by assumption)) | (with_reducible exact Nat.le_of_lt (by assumption)) | (with_reducible exact Int.natCast_nonneg _) | (with_reducible exact Int.le_of_lt (Int.pow_pos (by decide))) | (with_reducible exact Int.pow_pos (by decide)) | (with_reducible exact Nat.lt_of_lt_of_le (by decide) (by assumption)) | (with_reducible exact Int.ne_of_gt (by assumption)) | lia | omega))
    · rw [e]
      exact XB_retJ fun ns z g => ⟨.bx a b ns z, (J_name eo rfl rfl (hf3 _)), fun v h d B => ⟨a, b, d.1, X.na, X.nb, B⟩⟩
end

theorem popN_le : ∀ m k : Nat, k < m → popN k ≤ k
  | m + 1, k, h => by
    by_cases q : k = 0
    · rw [q, popN_zero]; exact Nat.le_refl _
    · rw [popN_step]
      have := popN_le m (k / 2) (by  (first | lia | omega))
      (first | lia | omega)
theorem pop_le (x : Int) : pop x ≤ x.toNat := by
  unfold pop
  have := popN_le _ x.toNat (Nat.lt_succ_self _)
  (first | lia | omega)
section
variable {w : World} {mean : ExcName → Option Value} {mg mb : Str → Option Value}
theorem len_83 {n : Nat} (hn : 2 ≤ n) {X : Int} (h1 : -(2 ^ 83) < X) (h2 : X < 2 ^ 83) : (limbs (2 ^ n) X.natAbs).length ≤ 83 := by
  refine limbs_len_le (bs_gt (by  (first | lia | omega))) ?_
  rw [pow_pow]
  have : (2 : Int) ^ 83 ≤ 2 ^ (n * 83) := pow_le_pow (by  (first | lia | omega))
  (first | lia | omega)
theorem xor_83 {X Y : Int} (h1 : -(2 ^ 83) < X) (h2 : X < 2 ^ 83) (h3 : -(2 ^ 83) < Y) (h4 : Y < 2 ^ 83) : pop (Builtin.bitXor X Y) < 2 ^ 1000 := by
  have h := fit_op (k := 83) (X := X) (Y := Y) dig_xor two_xor ⟨by (first | lia | omega), h2⟩ ⟨by (first | lia | omega), h4⟩
  have h5 := pop_le (Builtin.bitXor X Y)
  have h6 : (2 : Int) ^ 83 ≤ 2 ^ 1000 := pow_le_pow (by  (first | lia | omega))
  unfold Fit at h
  (first | lia | omega)
theorem fnc_law {ms : List Int} (hlen : ms.length ≤ 63) : Fnc w mean mg mb 7 "law" [.l ms] (.b true) := by
  refine' fnc_intro ["script"] ?hf ?hbind ?hloc ?hnd ?hlen ?hcell ?c2 ?c3 ?c4 ?_
  ((case hf => exact rfl); (case hcell => decide); (case hloc => decide); (case hnd => decide); (case hlen => exact rfl); (case c2 => exact rfl); (case c3 => exact rfl); (case c4 => exact rfl))
  (case hbind => (intro s _ _ _ vals hl; obtain ⟨v1, hv⟩ := List.length_eq_one_iff.mp hl; subst hv; exact BindsTo.of_eq rfl))
  intro c _ _ o hcl eo
  have hf3 : ∀ q, c.cl.lookup q = none := fun q => by rw [hcl]; rfl
  refine B_enter eo hcl (J_callR (fun _ _ _ _ st q => q.old st) eo o st_law_box (Js_cons (J_name eo rfl rfl (hf3 _)) Js_nil) (fnc_law_box hlen) (by decide)) fun a b X => ?_
  refine XB_for (fun _ l' => l' = []) [] eo X (ItX_of (PN := fun n val => val = fun i : Nat => .i i) X fun ns z g => ⟨_, _, rfl, It_range1 eo o free_range J_int (by decide) (by decide) rfl⟩) trivial rfl (fun i l' e => by rw [e]; rfl) (fun nn val hv i l' hi e => ?_) (fun nn val hv l' e => by rw [e]; exact XB_retJ fun ns z g => ⟨.b true, J_bool, fun v h d _ => d⟩)
  rw [e, hv]
  refine XB_asg (P := fun i => ∃ n : Nat, i = n ∧ 2 ≤ n ∧ n ≤ 9) eo X (JI_bin (P1 := fun x => x = 2) (P2 := fun y => 0 ≤ y ∧ y < 8) (JI_of fun _ _ _ => ⟨2, rfl, J_int⟩) (JI_callX eo o X rfl st_law_take (fun ns z g => Js_cons (J_name eo rfl rfl (hf3 _)) (Js_cons J_int Js_nil)) (fnc_law_take (by decide)) (by decide)) fun x y e h => ⟨x + y, ⟨(x + y).toNat, by (first | lia | omega), by (first | lia | omega), by (first | lia | omega)⟩, op_add⟩) ?_
  rintro _ ⟨n, rfl, hn, hn9⟩
  refine XB_asg2 (P1 := fun i => -(2 ^ 82) < i ∧ i < 2 ^ 82) (P2 := fun i => -(2 ^ 82) < i ∧ i < 2 ^ 82) eo X (JI_callX eo o X rfl st_law_drawn (fun ns z g => Js_cons (J_name eo rfl rfl (hf3 _)) (Js_cons (J_name eo rfl rfl (hf3 _)) Js_nil)) (fnc_law_drawn hn hn9) (by decide)) (JI_callX eo o X rfl st_law_drawn (fun ns z g => Js_cons (J_name eo rfl rfl (hf3 _)) (Js_cons (J_name eo rfl rfl (hf3 _)) Js_nil)) (fnc_law_drawn hn hn9) (by decide)) ?_
  rintro A B ⟨hA1, hA2⟩ ⟨hB1, hB2⟩
  have h82 : (2 : Int) ^ 82 < 2 ^ 83 := by decide
  have lA : (limbs (2 ^ n) A.natAbs).length ≤ 83 := len_83 hn (by  (first | lia | omega)) (by  (first | lia | omega))
  have lB : (limbs (2 ^ n) B.natAbs).length ≤ 83 := len_83 hn (by  (first | lia | omega)) (by  (first | lia | omega))
  have lC : (limbs (2 ^ n) (0 - 1 - A).natAbs).length ≤ 83 := len_83 hn (by  (first | lia | omega)) (by  (first | lia | omega))
  refine XB_skip (JTI_of fun ns z g => ⟨false, rfl, JT_or (a := false) (JT_not (b := true) (JT_plain (J_call eo o st_law_two_right (Js_cons (J_name eo rfl rfl (hf3 _)) (Js_cons (J_name eo rfl rfl (hf3 _)) (Js_cons (J_name eo rfl rfl (hf3 _)) Js_nil))) (fnc_two_right (by  (first | lia | omega)) (by  (first | lia | omega)) (by  (first | lia | omega)) (by  (first | lia | omega)) (xor_83 (by  (first | lia | omega)) (by  (first | lia | omega)) (by  (first | lia | omega)) (by  (first | lia | omega)))) (by decide)))) (fun _ => JT_not (b := true) (JT_plain (J_call eo o st_law_two_right (Js_cons (J_name eo rfl rfl (hf3 _)) (Js_cons (J_bin (J_bin J_int J_int op_sub) (J_name eo rfl rfl (hf3 _)) op_sub) (Js_cons (J_name eo rfl rfl (hf3 _)) Js_nil))) (fnc_two_right (by  (first | lia | omega)) (by  (first | lia | omega)) (by  (first | lia | omega)) (by  (first | lia | omega)) (xor_83 (by  (first | lia | omega)) (by  (first | lia | omega)) (by  (first | lia | omega)) (by  (first | lia | omega)))) (by decide)))) (fun e => nomatch e)⟩) ?_
  have bits : ∀ {Z : Int}, -(2 ^ 82) < Z → Z < 2 ^ 82 → ∀ {N : Nat}, N ≤ 200 → c.fnc 6 "_law_bits_right" [.i Z, .i N, .i n] (.b true) := fun {Z} h1 h2 {N} h3 => fnc_bits_right (by  (first | lia | omega)) (by  (first | lia | omega)) (Nat.le_trans (len_83 hn (by  (first | lia | omega)) (by  (first | lia | omega))) (by decide)) h3
  refine XB_for (fun _ l' => l' = [(("w" : Str), SV.i n)]) [(("w" : Str), SV.i n)] eo X (ItX_tup (ms := [A, B, 0, 0 - 1]) (fun ns z g => Js_cons (J_name eo rfl rfl (hf3 _)) (Js_cons (J_name eo rfl rfl (hf3 _)) (Js_cons J_int (Js_cons (J_bin J_int J_int op_sub) Js_nil)))) (Nat.le_of_ble_eq_true rfl)) ⟨rfl, trivial⟩ rfl (fun i l' e => by rw [e]; rfl) (fun nn val hv i l' hi e => ?_) (fun nn val hv l' e => ?_)
  · obtain ⟨rfl, rfl⟩ := hv
    subst e
    have hms : ∀ Z ∈ [A, B, 0, 0 - 1], -(2 ^ 82) < Z ∧ Z < 2 ^ 82 := List.forall_mem_cons.mpr ⟨⟨hA1, hA2⟩, List.forall_mem_cons.mpr ⟨⟨hB1, hB2⟩, List.forall_mem_cons.mpr ⟨⟨by decide, by decide⟩, List.forall_mem_cons.mpr ⟨⟨by decide, by decide⟩, fun _ h => nomatch h⟩⟩⟩⟩
    have hZ := hms ([A, B, 0, 0 - 1].getD i 0) (by rw [List.getD_eq_getElem?_getD, List.getElem?_eq_getElem hi]; exact List.getElem_mem hi)
    clear hms
    dsimp only
    generalize [A, B, 0, 0 - 1].getD i 0 = Z at hZ
    have hZb : Builtin.Int.intBits Z ≤ 82 := bits_lt (by
      have := kbt_cast 82
      (first | lia | omega))
    refine XB_skip (JTI_not (P := fun x => x = true) (JTI_call3 (D' := 6) (i1 := Z) (i3 := n) (P := fun i => 0 ≤ i ∧ i < Builtin.Int.intBits Z + 3 * n) eo o st_law_bits_right (JI_of fun _ _ _ => ⟨Z, rfl, (J_name eo rfl rfl (hf3 _))⟩) (JI_callX eo o X rfl st_law_take (fun ns z g => Js_cons (J_name eo rfl rfl (hf3 _)) (Js_cons (J_bin (J_bits (pl := _) (J_name eo rfl rfl (hf3 _))) (J_bin J_int (J_name eo rfl rfl (hf3 _)) (op_mul (.of_left (by decide)))) op_add) Js_nil)) (fnc_law_take (by  (first | lia | omega))) (by decide)) (JI_of fun _ _ _ => ⟨n, rfl, (J_name eo rfl rfl (hf3 _))⟩) (fun i h => ?_) (by decide)) (fun x h => by rw [h]; rfl)) (XB_end rfl ⟨rfl, trivial⟩)
    obtain ⟨k, rfl⟩ := Int.eq_ofNat_of_zero_le h.1
    exact bits hZ.1 hZ.2 (by  (first | lia | omega))
  · subst e
    refine XB_skip (JTI_of fun ns z g => ⟨false, rfl, JT_not (b := true) (JT_plain (J_call eo o st_law_bits_right (Js_cons (J_bin J_int J_int op_sub) (Js_cons J_int (Js_cons (J_name eo rfl rfl (hf3 _)) Js_nil))) (bits (N := 0) (by decide) (by decide) (by decide)) (by decide)))⟩) (XB_end rfl trivial)
end

noncomputable def WI (P : Params) (h : Heap) (v : Value) : WData → Prop
  | .int i => ∃ t, v = .int i t
  | .list xs => ∃ a vs, v = .ref a ∧ h.get? a = some (listOf vs.toArray 0) ∧ WellAll P h vs xs
  | _ => True
theorem well_inv {P : Params} {h : Heap} {v : Value} {d : WData} (w : Well P h v d) : WI P h v d := by
  cases w <;> first | exact trivial | exact ⟨_, rfl⟩ | exact ⟨_, _, rfl, by assumption, by assumption⟩
theorem wa_cons {P : Params} {h : Heap} {vs : List Value} {d : WData} {ds : List WData} (w : WellAll P h vs (d :: ds)) : ∃ v r, vs = v :: r ∧ WI P h v d ∧ WellAll P h r ds := by
  cases w with | cons a b => exact ⟨_, _, rfl, well_inv a, b⟩
theorem wa_nil {P : Params} {h : Heap} {vs : List Value} (w : WellAll P h vs []) : vs = [] := by cases w; rfl
theorem ints_of_well {P : Params} {R : WRecords} {h : Heap} (ds : List WData) : ∀ vs : List Value, WShape.hasItems R ds .int = true → WellAll P h vs ds → ∃ ms, IntsAre vs ms ∧ ds.length = ms.length := by
  induction ds with
  | nil => intro vs _ w; rw [wa_nil w]; exact ⟨[], .nil, rfl⟩
  | cons d ds ih =>
    intro vs hall w
    rw [WShape.hasItems, Bool.and_eq_true_iff] at hall
    obtain ⟨i, rfl⟩ := hasW_int hall.1
    obtain ⟨v, r, rfl, ⟨t, rfl⟩, wr⟩ := wa_cons w
    obtain ⟨ms, hi, hl⟩ := ih r hall.2 wr
    exact ⟨i :: ms, .cons i t hi, congrArg (· + 1) hl⟩
theorem args_of {w : World} {s₁ : Shared} {args : List WData} {vals : List Value} (hpre : PySem.Challenge.rw_nn0012_01.row.claim.pre args = true) (hwl : WellAll w.params s₁.heap vals args) : ∃ a ms, vals = [.ref a] ∧ LAt s₁.heap a ms ∧ ms.length ≤ 63 := by
  obtain ⟨h1, h2⟩ := pre_splitW hpre
  obtain ⟨d, r, rfl, hd, hr⟩ := hasAllW_cons h1
  obtain rfl := hasAllW_nil hr
  obtain ⟨ds, rfl, hall⟩ := hasW_list hd
  have h3 := condW_of (holds_andW h2).1 (w_not (w_lt w_lit (w_len_list (w_arg rfl))))
  clear hpre h1 h2 hd hr
  obtain ⟨v, r, rfl, ⟨a, vs, rfl, e, wa⟩, wr⟩ := wa_cons hwl
  rw [wa_nil wr]
  obtain ⟨ms, hi, hl⟩ := ints_of_well ds vs hall wa
  have h4 : ¬ ((63 : Int) < ds.length) := by simpa using h3
  exact ⟨a, ms, rfl, ⟨vs, 0, e, hi⟩, by omega⟩
theorem post_ok (args : List WData) : PySem.Challenge.rw_nn0012_01.row.claim.post args (.bool true) args = true := by with_unfolding_all rfl
theorem law_wp {w : World} {mean : ExcName → Option Value} {mg mb : Str → Option Value} {s : Shared} {f a : Addr} {ms : List Int} (T : Top hd.view_39 (looseW hd.view_39 []) mean mg mb s.heap) (hmg : mg "law" = some (.ref f)) (ha : LAt s.heap a ms) (hlen : ms.length ≤ 63) (hg : s.gens = #[])
    {cl : Str → Option Addr} {mn : ExcName → Option Value} {args : List WData} {E : Value → Shared → Prop} : wpAny (model prg w) callerA (call (.ref f) [.ref a]) (fun v s' => GoodWG PySem.Challenge.rw_nn0012_01.row.claim cl mn args s (.ok (.ret v)) s') E s := by
  refine wpAny_mono (E := fun _ _ => False) ?_ (fun _ _ h => h) (fun _ _ e => e.elim)
  refine fnc_law hlen f (1 + claimMargin) 4 (some []) [] s [.ref a] _ hmg ⟨T⟩ (by decide) (by decide) ⟨⟨a, rfl, ha⟩, trivial⟩ fun v h' tk' st d => ?_
  cases d
  exact GoodW.toG ⟨.inl ⟨_, .bool true, [], rfl, fun _ => rfl, .bool true, post_ok args, unshared_nil⟩, st, rfl, hg⟩
end Mine
theorem PySem.Challenge.cw_nn0012_01_holds : PySem.Challenge.rw_nn0012_01.Holds :=
  Mine.hd (by
    intro w s₀ s₁ mg mb G Y fa o pm cd doc dV kV ho hd hcd hD hmg hg args vals as hpre hlay hrd hwl hlo
    refine Ground.open G fun T B D TE TW => ?_
    obtain ⟨a, ms, rfl, ha, hc⟩ := Mine.args_of hpre hwl
    exact Mine.law_wp T hmg ha hc hg)
