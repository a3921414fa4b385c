import PyProof.Rows.All
import Wide.All
import OpenK.AllK
import Wide.FinOn
import KE.KStateDown
import HandS.ForMost
import HandS.More
import HandS.Exc
import HandS.TryOnly
import HandS.TryMany
import HandS.ExcOwn
import HandS.ExcInit
import HandS.ExcField
import HandS.WordsExc
import HandS.Defaults
import HandS.Codes
import HandS.Lambda
import HandS.EndBits
import HandS.EndTab
import HandS.Head0
import HandS.Head1
import HandS.Head2
import HandS.HeadEnd
import HandS.HeadHook1
import HandS.HeadHook2
import HandS.HeadHook3
import HandS.HeadHook4
import HandS.HeadWalk
import HandS.Walk
import HandS.IsInst
import HandS.Zip
import HandS.Deep
import HandS.DictComp
import HandS.DictEq
import HandS.Style
import HandS.TupAny
import HandS.NoneIn
import KE.SortData
import PySem.Challenge.RW_breakplans_k09_whole_told_to_all
set_option Elab.async false
set_option linter.all false
set_option maxRecDepth 100000
/-! ## KMath -/
/-! plain mathematics: lots of hands that grow, how long they can be kept from being all -/
namespace KM
variable {α : Type} [DecidableEq α]
/-- who knows behind a round by m what those of a lot knew -/
def beh (hs : List α) (m : α → List α) (lot : List α) : List α := hs.filter fun h => (m h).any fun o => decide (o ∈ lot)
def kp (hs : List α) (ms : List (α → List α)) : Nat → List α → Bool
  | 0, lot => decide (lot.length < hs.length)
  | r + 1, lot => decide (lot.length < hs.length) && ms.any fun m => kp hs ms r (beh hs m lot)
structure Good (hs : List α) (ms : List (α → List α)) : Prop where
  nd : hs.Nodup
  ne : ms ≠ []
  self : ∀ m ∈ ms, ∀ h ∈ hs, h ∈ m h
  sub : ∀ m ∈ ms, ∀ h ∈ hs, ∀ o ∈ m h, o ∈ hs
theorem beh_sub (hs : List α) (m : α → List α) (lot : List α) : (beh hs m lot).Sublist hs := List.filter_sublist
theorem mem_beh {hs : List α} {m : α → List α} {lot : List α} {h : α} : h ∈ beh hs m lot ↔ h ∈ hs ∧ ∃ o ∈ m h, o ∈ lot := by
  unfold beh
  simp [List.mem_filter]
theorem fil_le {p q : α → Bool} (h : ∀ x, p x = true → q x = true) : ∀ l : List α, (l.filter p).Sublist (l.filter q)
  | [] => .slnil
  | x :: l => by
    have ih := fil_le h l
    cases hp : p x with
    | true => rw [List.filter_cons_of_pos hp, List.filter_cons_of_pos (h x hp)]; exact ih.cons_cons x
    | false =>
      rw [List.filter_cons_of_neg (by simp [hp])]
      cases hq : q x with
      | true => rw [List.filter_cons_of_pos hq]; exact ih.cons x
      | false => rw [List.filter_cons_of_neg (by simp [hq])]; exact ih
theorem fil_eq : ∀ {hs lot : List α}, hs.Nodup → lot.Sublist hs → hs.filter (fun x => decide (x ∈ lot)) = lot
  | [], lot, _, h => by
    cases h
    rfl
  | x :: hs, lot, nd, h => by
    obtain ⟨nx, nd'⟩ := List.nodup_cons.mp nd
    cases h with
    | cons _ h' =>
      have nl : x ∉ lot := fun z => nx (h'.subset z)
      rw [List.filter_cons_of_neg (by simp [nl])]
      exact fil_eq nd' h'
    | @cons_cons l1 _ _ h' =>
      rw [List.filter_cons_of_pos (by simp)]
      refine congrArg _ ?_
      have e : hs.filter (fun y => decide (y ∈ x :: l1)) = hs.filter (fun y => decide (y ∈ l1)) := by
        apply List.filter_congr
        intro y hy
        have ny : y ≠ x := fun z => nx (z ▸ hy)
        simp [ny]
      rw [e]
      exact fil_eq nd' h'
theorem sub_of {hs a b : List α} (nd : hs.Nodup) (ha : a.Sublist hs) (hb : b.Sublist hs) (h : ∀ x ∈ a, x ∈ b) : a.Sublist b := by
  rw [← fil_eq nd ha, ← fil_eq nd hb]
  exact fil_le (fun x hx => by simpa using h x (by simpa using hx)) hs
section
variable {hs : List α} {ms : List (α → List α)} (G : Good hs ms)
include G
theorem grow {m : α → List α} (hm : m ∈ ms) {lot : List α} (hl : lot.Sublist hs) : lot.Sublist (beh hs m lot) :=
  sub_of G.nd hl (beh_sub ..) fun x hx => mem_beh.mpr ⟨hl.subset hx, x, G.self m hm x (hl.subset hx), hx⟩
theorem grow_lt {m : α → List α} (hm : m ∈ ms) {lot : List α} (hl : lot.Sublist hs) (ne : beh hs m lot ≠ lot) : lot.length < (beh hs m lot).length := by
  have h := grow G hm hl
  rcases Nat.lt_or_ge lot.length (beh hs m lot).length with z | z
  · exact z
  · exact absurd (h.eq_of_length (Nat.le_antisymm h.length_le z)).symm ne
theorem beh_full {m : α → List α} (hm : m ∈ ms) {lot : List α} (hl : lot.Sublist hs) (hf : lot.length = hs.length) : (beh hs m lot).length = hs.length := by
  have h := (grow G hm hl).length_le
  have h2 := (beh_sub hs m lot).length_le
  omega
end
theorem kp_lt {hs : List α} {ms : List (α → List α)} : ∀ {r : Nat} {lot : List α}, kp hs ms r lot = true → lot.length < hs.length
  | 0, lot, h => by simpa [kp] using h
  | r + 1, lot, h => by
    unfold kp at h
    simp only [Bool.and_eq_true, decide_eq_true_eq] at h
    exact h.1
theorem kp_succ {hs : List α} {ms : List (α → List α)} {r : Nat} {lot : List α} : kp hs ms (r + 1) lot = true ↔ lot.length < hs.length ∧ ∃ m ∈ ms, kp hs ms r (beh hs m lot) = true := by
  show (decide (lot.length < hs.length) && ms.any fun m => kp hs ms r (beh hs m lot)) = true ↔ _
  simp
/-- a lot that some map leaves as it is stays as long as one likes -/
theorem kp_fix {hs : List α} {ms : List (α → List α)} {m : α → List α} (hm : m ∈ ms) {lot : List α} (hl : lot.length < hs.length) (e : beh hs m lot = lot) : ∀ r, kp hs ms r lot = true
  | 0 => by simpa [kp] using hl
  | r + 1 => kp_succ.mpr ⟨hl, m, hm, by rw [e]; exact kp_fix hm hl e r⟩
/-! ### the greatest of some ints -/
def mx : List Int → Int
  | [] => 0
  | [x] => x
  | x :: y :: r => max x (mx (y :: r))
theorem mx_mem : ∀ {l : List Int}, l ≠ [] → mx l ∈ l
  | [], h => absurd rfl h
  | [x], _ => by simp [mx]
  | x :: y :: r, _ => by
    have ih := mx_mem (l := y :: r) (by simp)
    show max x (mx (y :: r)) ∈ x :: y :: r
    rcases Int.le_total x (mx (y :: r)) with h | h
    · rw [Int.max_eq_right h]; exact List.mem_cons_of_mem _ ih
    · rw [Int.max_eq_left h]; exact List.mem_cons_self
theorem mx_ge : ∀ {l : List Int} {x : Int}, x ∈ l → x ≤ mx l
  | [], x, h => by simp at h
  | [y], x, h => by
    have e : x = y := by simpa using h
    rw [e]; exact Int.le_refl _
  | y :: z :: r, x, h => by
    show x ≤ max y (mx (z :: r))
    rcases List.mem_cons.mp h with e | h
    · rw [e]; exact Int.le_max_left ..
    · exact Int.le_trans (mx_ge h) (Int.le_max_right ..)
theorem mx_eq {l : List Int} {m : Int} (h : m ∈ l) (h2 : ∀ y ∈ l, y ≤ m) : m = mx l :=
  Int.le_antisymm (mx_ge h) (h2 _ (mx_mem (fun e => by rw [e] at h; cases h)))
/-! ### the program's reckoning -/
def FE : Int := 10000000000
def LL (hs : List α) (ms : List (α → List α)) : Nat → List α → Int
  | 0, lot => if lot.length = hs.length then -1 else 0
  | d + 1, lot => if lot.length = hs.length then -1 else if lot ∈ ms.map (fun m => beh hs m lot) then FE else min FE (1 + mx (ms.map fun m => LL hs ms d (beh hs m lot)))
section
variable {hs : List α} {ms : List (α → List α)} (G : Good hs ms)
include G
theorem LL_fuel : ∀ {d e : Nat} {lot : List α}, lot.Sublist hs → hs.length - lot.length ≤ d → hs.length - lot.length ≤ e → LL hs ms d lot = LL hs ms e lot
  | 0, 0, lot, _, _, _ => rfl
  | 0, e + 1, lot, hl, h1, _ => by
    have h := hl.length_le
    have q : lot.length = hs.length := by omega
    simp [LL, q]
  | d + 1, 0, lot, hl, _, h1 => by
    have h := hl.length_le
    have q : lot.length = hs.length := by omega
    simp [LL, q]
  | d + 1, e + 1, lot, hl, h1, h2 => by
    unfold LL
    by_cases q : lot.length = hs.length
    · rw [if_pos q, if_pos q]
    · rw [if_neg q, if_neg q]
      by_cases q2 : lot ∈ ms.map (fun m => beh hs m lot)
      · rw [if_pos q2, if_pos q2]
      · rw [if_neg q2, if_neg q2]
        refine congrArg (fun l => min FE (1 + mx l)) (List.map_congr_left fun m hm => ?_)
        have g := grow_lt G hm hl (fun e => q2 (List.mem_map.mpr ⟨m, hm, e⟩))
        exact LL_fuel (beh_sub ..) (by omega) (by omega)
/-- with fuel enough -/
def LV (_ : Good hs ms) (lot : List α) : Int := LL hs ms (hs.length) lot
theorem LV_full {lot : List α} (q : lot.length = hs.length) : LV G lot = -1 := by
  unfold LV
  cases hs.length with
  | zero => simp [LL, q]
  | succ n => simp [LL, q]
theorem LV_eq {lot : List α} (hl : lot.Sublist hs) : LV G lot = if lot.length = hs.length then -1 else if lot ∈ ms.map (fun m => beh hs m lot) then FE else min FE (1 + mx (ms.map fun m => LV G (beh hs m lot))) := by
  by_cases q : lot.length = hs.length
  · rw [LV_full G q, if_pos q]
  · rw [if_neg q]
    have e : LV G lot = LL hs ms (hs.length + 1) lot := LL_fuel G hl (by omega) (by omega)
    rw [e]
    show (if lot.length = hs.length then (-1 : Int) else if lot ∈ ms.map (fun m => beh hs m lot) then FE else min FE (1 + mx (ms.map fun m => LL hs ms hs.length (beh hs m lot)))) = _
    rw [if_neg q]
    rfl
/-- A -/
theorem LV_kp : ∀ (n : Nat) {lot : List α}, hs.length - lot.length ≤ n → lot.Sublist hs → ∀ k : Nat, (k : Int) ≤ FE → ((k : Int) ≤ LV G lot ↔ kp hs ms k lot = true)
  | n, lot, hn, hl, k, hk => by
    rw [LV_eq G hl]
    have hle := hl.length_le
    by_cases q : lot.length = hs.length
    · rw [if_pos q]
      constructor
      · intro h; omega
      · intro h; have := kp_lt h; omega
    · rw [if_neg q]
      by_cases q2 : lot ∈ ms.map (fun m => beh hs m lot)
      · rw [if_pos q2]
        obtain ⟨m, hm, e⟩ := List.mem_map.mp q2
        exact ⟨fun _ => kp_fix hm (by omega) e k, fun _ => hk⟩
      · rw [if_neg q2]
        have hne : (ms.map fun m => LV G (beh hs m lot)) ≠ [] := fun e => G.ne (List.map_eq_nil_iff.mp e)
        have lo : ∀ m ∈ ms, ∀ j : Nat, (j : Int) ≤ FE → ((j : Int) ≤ LV G (beh hs m lot) ↔ kp hs ms j (beh hs m lot) = true) := fun m hm j hj => by
          have g := grow_lt G hm hl (fun e => q2 (List.mem_map.mpr ⟨m, hm, e⟩))
          match n with
          | 0 => omega
          | n + 1 => exact LV_kp n (by omega) (beh_sub ..) j hj
        cases k with
        | zero =>
          have h0 : kp hs ms 0 lot = true := by simp [kp]; omega
          refine ⟨fun _ => h0, fun _ => ?_⟩
          obtain ⟨m, hm, e⟩ := List.mem_map.mp (mx_mem hne)
          have g := grow_lt G hm hl (fun e => q2 (List.mem_map.mpr ⟨m, hm, e⟩))
          have : -1 ≤ LV G (beh hs m lot) := by
            by_cases f : (beh hs m lot).length = hs.length
            · rw [LV_full G f]; omega
            · have := (lo m hm 0 (by unfold FE; omega)).mpr (by have := (beh_sub hs m lot).length_le; simp [kp]; omega)
              omega
          rw [← e]
          unfold FE
          omega
        | succ k =>
          rw [kp_succ]
          have hkk : (k : Int) ≤ FE := by omega
          constructor
          · intro h
            refine ⟨by omega, ?_⟩
            obtain ⟨m, hm, e⟩ := List.mem_map.mp (mx_mem hne)
            refine ⟨m, hm, (lo m hm k hkk).mp ?_⟩
            rw [e]
            omega
          · rintro ⟨_, m, hm, e⟩
            have h1 := (lo m hm k hkk).mpr e
            have h2 := mx_ge (List.mem_map.mpr ⟨m, hm, rfl⟩ : LV G (beh hs m lot) ∈ ms.map fun m => LV G (beh hs m lot))
            omega
theorem LV_keep {lot : List α} (hl : lot.Sublist hs) (k : Nat) (hk : (k : Int) ≤ FE) : (k : Int) ≤ LV G lot ↔ kp hs ms k lot = true := LV_kp G _ (Nat.le_refl _) hl k hk
/-- B -/
theorem LV_bound (hz : (hs.length : Int) < FE) : ∀ (n : Nat) {lot : List α}, hs.length - lot.length ≤ n → lot.Sublist hs → LV G lot = FE ∨ (-1 ≤ LV G lot ∧ LV G lot ≤ (hs.length : Int) - lot.length - 1)
  | n, lot, hn, hl => by
    rw [LV_eq G hl]
    have hle := hl.length_le
    by_cases q : lot.length = hs.length
    · rw [if_pos q]
      refine .inr ?_
      omega
    · rw [if_neg q]
      by_cases q2 : lot ∈ ms.map (fun m => beh hs m lot)
      · rw [if_pos q2]
        exact .inl rfl
      · rw [if_neg q2]
        have hne : (ms.map fun m => LV G (beh hs m lot)) ≠ [] := fun e => G.ne (List.map_eq_nil_iff.mp e)
        obtain ⟨m, hm, e⟩ := List.mem_map.mp (mx_mem hne)
        have g := grow_lt G hm hl (fun e => q2 (List.mem_map.mpr ⟨m, hm, e⟩))
        have ih : LV G (beh hs m lot) = FE ∨ (-1 ≤ LV G (beh hs m lot) ∧ LV G (beh hs m lot) ≤ (hs.length : Int) - (beh hs m lot).length - 1) := by
          match n with
          | 0 => omega
          | n + 1 => exact LV_bound hz n (by omega) (beh_sub ..)
        rw [← e]
        rcases ih with ih | ih
        · rw [ih]
          refine .inl ?_
          unfold FE
          omega
        · refine .inr ?_
          omega
end
/-! ### sources -/
/-- the hand's worth comes to all by m -/
def Src (hs : List α) (m : α → List α) (hand : α) : Prop := ∀ S : α → Prop, S hand → (∀ x, S x → ∀ o ∈ hs, x ∈ m o → S o) → ∀ h ∈ hs, S h
section
variable {hs : List α} {ms : List (α → List α)} (G : Good hs ms)
include G
theorem src_small (hz : (hs.length : Int) < FE) {hand : α} (hS : ∀ m ∈ ms, Src hs m hand) : ∀ (n : Nat) {lot : List α}, hs.length - lot.length ≤ n → lot.Sublist hs → hand ∈ lot → LV G lot ≤ (hs.length : Int) - lot.length - 1
  | n, lot, hn, hl, hh => by
    rw [LV_eq G hl]
    have hle := hl.length_le
    by_cases q : lot.length = hs.length
    · rw [if_pos q]
      omega
    · rw [if_neg q]
      have nofix : ∀ m ∈ ms, beh hs m lot ≠ lot := fun m hm e => by
        have all := hS m hm (fun x => x ∈ lot) hh (fun x hx o ho hxo => by
          rw [← e]
          exact mem_beh.mpr ⟨ho, x, hxo, hx⟩)
        have := (sub_of G.nd (List.Sublist.refl hs) hl all).length_le
        omega
      have q2 : ¬ lot ∈ ms.map (fun m => beh hs m lot) := fun h => by
        obtain ⟨m, hm, e⟩ := List.mem_map.mp h
        exact nofix m hm e
      rw [if_neg q2]
      have hne : (ms.map fun m => LV G (beh hs m lot)) ≠ [] := fun e => G.ne (List.map_eq_nil_iff.mp e)
      obtain ⟨m, hm, e⟩ := List.mem_map.mp (mx_mem hne)
      have g := grow_lt G hm hl (nofix m hm)
      have ih : LV G (beh hs m lot) ≤ (hs.length : Int) - (beh hs m lot).length - 1 := by
        match n with
        | 0 => omega
        | n + 1 => exact src_small hz hS n (by omega) (beh_sub ..) ((grow G hm hl).subset hh)
      rw [← e]
      omega
theorem nosrc_FE {m : α → List α} (hm : m ∈ ms) {S : α → Prop} (cl : ∀ x, S x → ∀ o ∈ hs, x ∈ m o → S o) {out : α} (ho : out ∈ hs) (hout : ¬ S out) : ∀ (n : Nat) {lot : List α}, hs.length - lot.length ≤ n → lot.Sublist hs → (∀ x ∈ lot, S x) → LV G lot = FE
  | n, lot, hn, hl, hs' => by
    rw [LV_eq G hl]
    have hle := hl.length_le
    have q : ¬ lot.length = hs.length := fun e => by
      have e2 := hl.eq_of_length e
      exact hout (hs' out (by rw [e2]; exact ho))
    rw [if_neg q]
    by_cases q2 : lot ∈ ms.map (fun m => beh hs m lot)
    · rw [if_pos q2]
    · rw [if_neg q2]
      have g := grow_lt G hm hl (fun e => q2 (List.mem_map.mpr ⟨m, hm, e⟩))
      have ih : LV G (beh hs m lot) = FE := by
        match n with
        | 0 => omega
        | n + 1 =>
          refine nosrc_FE hm cl ho hout n (by omega) (beh_sub ..) fun x hx => ?_
          obtain ⟨h1, o, h2, h3⟩ := mem_beh.mp hx
          exact cl o (hs' o h3) x h1 h2
      have h2 := mx_ge (List.mem_map.mpr ⟨m, hm, rfl⟩ : LV G (beh hs m lot) ∈ ms.map fun m => LV G (beh hs m lot))
      rw [ih] at h2
      unfold FE at *
      omega
/-- C -/
theorem never_iff (hz : (hs.length : Int) < FE) {hand : α} (hh : hand ∈ hs) : LV G [hand] = FE ↔ ∃ m ∈ ms, ¬ Src hs m hand := by
  have hl : [hand].Sublist hs := List.singleton_sublist.mpr hh
  constructor
  · intro e
    apply Classical.byContradiction
    intro h
    have hS : ∀ m ∈ ms, Src hs m hand := fun m hm => Classical.byContradiction fun z => h ⟨m, hm, z⟩
    have := src_small G hz hS _ (Nat.le_refl _) hl (List.mem_singleton.mpr rfl)
    rw [e] at this
    omega
  · rintro ⟨m, hm, h⟩
    obtain ⟨S, h1⟩ := Classical.not_forall.mp h
    obtain ⟨h1, h2⟩ := Classical.not_imp.mp h1
    obtain ⟨h2, h3⟩ := Classical.not_imp.mp h2
    obtain ⟨out, h4⟩ := Classical.not_forall.mp h3
    obtain ⟨ho, hout⟩ := Classical.not_imp.mp h4
    exact nosrc_FE G hm h2 ho hout _ (Nat.le_refl _) hl fun x hx => by
      rw [List.mem_singleton.mp hx]
      exact h1
end
/-! ### the first round told -/
theorem due_eq {L : Int} {t most : Nat} (p : Nat → Bool) (hp : ∀ r : Nat, r ≤ most → (p r = true ↔ ¬ ((r : Int) ≤ L))) :
    ((List.range (most + 1)).filter p).head? = if (most : Int) ≤ L then none else if L < 0 then some 0 else some (L + 1).toNat := by
  rw [List.head?_filter]
  by_cases h : (most : Int) ≤ L
  · rw [if_pos h, List.find?_eq_none]
    intro x hx
    have hx' : x ≤ most := Nat.lt_succ_iff.mp (List.mem_range.mp hx)
    intro z
    exact (hp x hx').mp z (by omega)
  · rw [if_neg h]
    by_cases h0 : L < 0
    · rw [if_pos h0, List.find?_range_eq_some]
      refine ⟨(hp 0 (Nat.zero_le _)).mpr (by omega), by simp, fun j hj => absurd hj (Nat.not_lt_zero _)⟩
    · rw [if_neg h0, List.find?_range_eq_some]
      refine ⟨(hp _ (by omega)).mpr (by omega), by simp; omega, fun j hj => ?_⟩
      have := mt (hp j (by omega)).mp (fun z => z (by omega))
      simpa using this
/-! ### the greedy row -/
def ix (hs : List α) (ms : List (α → List α)) (r : Nat) (lot : List α) : Nat := ms.findIdx fun m => kp hs ms r (beh hs m lot)
def nth (ms : List (α → List α)) (i : Nat) : α → List α := ms.getD i (fun h => [h])
def gr (hs : List α) (ms : List (α → List α)) : Nat → List α → List Nat
  | 0, _ => []
  | r + 1, lot => ix hs ms r lot :: gr hs ms r (beh hs (nth ms (ix hs ms r lot)) lot)
def rows (many : Nat) : Nat → List (List Nat)
  | 0 => [[]]
  | r + 1 => (rows many r).flatMap fun row => (List.range many).map fun i => row ++ [i]
def rowsC (many : Nat) : Nat → List (List Nat)
  | 0 => [[]]
  | r + 1 => (List.range many).flatMap fun i => (rowsC many r).map fun row => i :: row
theorem rows_eq (many : Nat) : ∀ r, rows many r = rowsC many r
  | 0 => rfl
  | 1 => by
    simp only [rows, rowsC, List.flatMap_cons, List.flatMap_nil, List.append_nil, List.map_cons, List.map_nil, List.nil_append]
    generalize List.range many = l
    induction l with
    | nil => rfl
    | cons x l ih => simp [ih]
  | r + 2 => by
    have ih := rows_eq many (r + 1)
    have ih0 := rows_eq many r
    show (rows many (r + 1)).flatMap (fun row => (List.range many).map fun i => row ++ [i]) = _
    rw [ih]
    show ((List.range many).flatMap fun i => (rowsC many r).map fun row => i :: row).flatMap (fun row => (List.range many).map fun i => row ++ [i]) = (List.range many).flatMap fun i => (rowsC many (r + 1)).map fun row => i :: row
    rw [List.flatMap_assoc]
    refine congrArg (fun f => (List.range many).flatMap f) (funext fun i => ?_)
    rw [List.flatMap_map]
    rw [← ih]
    show _ = ((rows many r).flatMap fun row => (List.range many).map fun i => row ++ [i]).map _
    rw [ih0, List.map_flatMap]
    refine congrArg (fun f => (rowsC many r).flatMap f) (funext fun row => ?_)
    simp
def run (hs : List α) (ms : List (α → List α)) (lot : List α) (row : List Nat) : List α := row.foldl (fun l i => beh hs (nth ms i) l) lot
section
variable {hs : List α} {ms : List (α → List α)} (G : Good hs ms)
include G
theorem findSome_range {β : Type} (f : Nat → Option β) : ∀ (l : List (α → List α)) (g : (α → List α) → Option β) (h : ∀ i (hi : i < l.length), f i = g l[i]), (List.range l.length).findSome? f = l.findSome? g := by
  intro l g h
  have e : (List.range l.length).map f = l.map g := by
    apply List.ext_getElem
    · simp
    · intro i h1 h2
      simp only [List.getElem_map, List.getElem_range]
      exact h i (by simpa using h2)
  have e1 : (List.range l.length).findSome? f = ((List.range l.length).map f).findSome? id := by rw [List.findSome?_map]; rfl
  have e2 : l.findSome? g = (l.map g).findSome? id := by rw [List.findSome?_map]; rfl
  rw [e1, e2, e]
theorem first_row : ∀ (r : Nat) {lot : List α}, lot.Sublist hs → (rowsC ms.length r).find? (fun row => decide ((run hs ms lot row).length < hs.length)) = if kp hs ms r lot = true then some (gr hs ms r lot) else none
  | 0, lot, hl => by
    show [([] : List Nat)].find? (fun row => decide ((run hs ms lot row).length < hs.length)) = if decide (lot.length < hs.length) = true then some [] else none
    by_cases h : lot.length < hs.length
    · simp [run, h]
    · simp [run, h]
  | r + 1, lot, hl => by
    show ((List.range ms.length).flatMap fun i => (rowsC ms.length r).map fun row => i :: row).find? _ = _
    rw [List.find?_flatMap]
    have step : ∀ i, i < ms.length → ((rowsC ms.length r).map fun row => i :: row).find? (fun row => decide ((run hs ms lot row).length < hs.length)) = if kp hs ms r (beh hs (nth ms i) lot) = true then some (i :: gr hs ms r (beh hs (nth ms i) lot)) else none := fun i hi => by
      rw [List.find?_map]
      have e : ((fun row => decide ((run hs ms lot row).length < hs.length)) ∘ fun row => i :: row) = fun row => decide ((run hs ms (beh hs (nth ms i) lot) row).length < hs.length) := rfl
      rw [e, first_row r (beh_sub ..)]
      split <;> rfl
    have body : (List.range ms.length).findSome? (fun i => ((rowsC ms.length r).map fun row => i :: row).find? (fun row => decide ((run hs ms lot row).length < hs.length))) =
        (List.range ms.length).findSome? (fun i => if kp hs ms r (beh hs (nth ms i) lot) = true then some (i :: gr hs ms r (beh hs (nth ms i) lot)) else none) := by
      have : ∀ (l : List Nat), (∀ i ∈ l, i < ms.length) → l.findSome? (fun i => ((rowsC ms.length r).map fun row => i :: row).find? (fun row => decide ((run hs ms lot row).length < hs.length))) = l.findSome? (fun i => if kp hs ms r (beh hs (nth ms i) lot) = true then some (i :: gr hs ms r (beh hs (nth ms i) lot)) else none) := by
        intro l
        induction l with
        | nil => intro _; rfl
        | cons x l ih =>
          intro h
          rw [List.findSome?_cons, List.findSome?_cons, step x (h x List.mem_cons_self), ih fun i hi => h i (List.mem_cons_of_mem _ hi)]
      exact this _ fun i hi => List.mem_range.mp hi
    rw [body]
    by_cases k : kp hs ms (r + 1) lot = true
    · rw [if_pos k]
      obtain ⟨_, m, hm, km⟩ := kp_succ.mp k
      have hi : ix hs ms r lot < ms.length := List.findIdx_lt_length_of_exists ⟨m, hm, km⟩
      have hk : kp hs ms r (beh hs (nth ms (ix hs ms r lot)) lot) = true := by
        have z := List.findIdx_getElem (xs := ms) (p := fun m => kp hs ms r (beh hs m lot)) (w := hi)
        have e : nth ms (ix hs ms r lot) = ms[ix hs ms r lot] := by unfold nth; simp [hi]
        rw [e]
        exact z
      have first : ∀ j, j < ix hs ms r lot → ¬ kp hs ms r (beh hs (nth ms j) lot) = true := fun j hj => by
        have z := List.not_of_lt_findIdx (xs := ms) (p := fun m => kp hs ms r (beh hs m lot)) hj
        have e : nth ms j = ms[j]'(Nat.lt_trans hj hi) := by unfold nth; simp [Nat.lt_trans hj hi]
        rw [e]
        simpa using z
      show _ = some (ix hs ms r lot :: gr hs ms r (beh hs (nth ms (ix hs ms r lot)) lot))
      have gen : ∀ (n a : Nat), a ≤ ix hs ms r lot → ix hs ms r lot < a + n → (List.range' a n).findSome? (fun i => if kp hs ms r (beh hs (nth ms i) lot) = true then some (i :: gr hs ms r (beh hs (nth ms i) lot)) else none) = some (ix hs ms r lot :: gr hs ms r (beh hs (nth ms (ix hs ms r lot)) lot)) := by
        intro n
        induction n with
        | zero => intro a h1 h2; omega
        | succ n ih =>
          intro a h1 h2
          rw [List.range'_succ, List.findSome?_cons]
          by_cases e : a = ix hs ms r lot
          · rw [e, if_pos hk]
          · rw [if_neg (first a (by omega))]
            exact ih (a + 1) (by omega) (by omega)
      rw [List.range_eq_range']
      exact gen _ 0 (Nat.zero_le _) (by omega)
    · rw [if_neg k, List.findSome?_eq_none_iff]
      intro i hi
      have hi' := List.mem_range.mp hi
      refine if_neg fun z => k (kp_succ.mpr ⟨?_, nth ms i, ?_, z⟩)
      · have hm : nth ms i ∈ ms := by unfold nth; simp [hi']
        have h1 := (grow G hm hl).length_le
        have h2 := kp_lt z
        omega
      · unfold nth; simp [hi']
end
end KM

/-! ## KTop -/
namespace K9
open PySem PySem.Spec PyProof.Rows L2
def top (i : Nat) : Stmt := PySem.Challenge.pw_breakplans_k09_whole_told_to_all.main.body.getD i (.Pass ⟨0, 0, 0, 0⟩)
abbrev FnP (K : PySem.W.Frag) (x : Str) (st : Stmt) (f : Addr) (fd : FuncData) : Prop := FunD K x x (defArgs st) (defBody st) (defScope st) [] [] f fd
abbrev FnM (K : PySem.W.Frag) (x q : Str) (st : Stmt) (f : Addr) (fd : FuncData) : Prop := FunD K x q (defArgs st) (defBody st) (defScope st) [] [] f fd
abbrev s_is_list : Stmt := top 18
abbrev s_is_integer : Stmt := top 19
abbrev s_is_name : Stmt := top 20
abbrev s_checked_hands : Stmt := top 21
abbrev s_is_hand_of : Stmt := top 22
abbrev s_is_map : Stmt := top 24
abbrev s_checked_maps : Stmt := top 25
abbrev s_checked_hand : Stmt := top 28
abbrev s_told_on : Stmt := top 29
abbrev s_checked_number : Stmt := top 32
abbrev s_longest_lasting : Stmt := top 33
abbrev s_told_rounds : Stmt := top 34
abbrev s_late_row : Stmt := top 35
abbrev s_l_m_reach : Stmt := top 37
abbrev s_l_m_sources : Stmt := top 38
abbrev s_l_m_sure : Stmt := top 39
abbrev s_l_m_lossy : Stmt := top 40
abbrev s_l_m_nested : Stmt := top 41
abbrev s_l_m_deep : Stmt := top 42
abbrev s_l_m_stars : Stmt := top 43
abbrev s_l_m_maps : Stmt := top 44
abbrev s_l_m_behind : Stmt := top 45
abbrev s_l_m_lots : Stmt := top 46
abbrev s_l_m_met : Stmt := top 47
abbrev s_l_m_world : Stmt := top 48
abbrev s_l_start : Stmt := top 49
abbrev s_l_draw : Stmt := top 50
abbrev s_l_pick : Stmt := top 51
abbrev s_l_mixed : Stmt := top 52
abbrev s_l_same : Stmt := top 53
abbrev s_l_each_once : Stmt := top 54
abbrev s_l_hands : Stmt := top 55
abbrev s_l_map : Stmt := top 56
abbrev s_l_plain_map : Stmt := top 57
abbrev s_l_maps : Stmt := top 58
abbrev s_l_rows_of : Stmt := top 59
abbrev s_l_late_lots : Stmt := top 60
abbrev s_l_first_late : Stmt := top 61
abbrev s_l_by_all : Stmt := top 62
abbrev s_law : Stmt := top 63
abbrev s_BadNumber_init : Stmt := inClass (top 7) 0
abbrev s_NoHand_init : Stmt := inClass (top 12) 0
abbrev s_Maps_init : Stmt := inClass (top 26) 0
abbrev s_Maps_hands : Stmt := inClass (top 26) 1
abbrev s_Maps_maps : Stmt := inClass (top 26) 2
/-! the defs as data for the head -/
def d_is_list : He.DefD := ⟨("is_list", none), "is_list", "is_list", defArgs s_is_list, defBody s_is_list, defScope s_is_list, [], []⟩
def d_is_integer : He.DefD := ⟨("is_integer", none), "is_integer", "is_integer", defArgs s_is_integer, defBody s_is_integer, defScope s_is_integer, [], []⟩
def d_is_name : He.DefD := ⟨("is_name", none), "is_name", "is_name", defArgs s_is_name, defBody s_is_name, defScope s_is_name, [], []⟩
def d_checked_hands : He.DefD := ⟨("checked_hands", none), "checked_hands", "checked_hands", defArgs s_checked_hands, defBody s_checked_hands, defScope s_checked_hands, [], []⟩
def d_is_hand_of : He.DefD := ⟨("is_hand_of", none), "is_hand_of", "is_hand_of", defArgs s_is_hand_of, defBody s_is_hand_of, defScope s_is_hand_of, [], []⟩
def d_is_map : He.DefD := ⟨("is_map", none), "is_map", "is_map", defArgs s_is_map, defBody s_is_map, defScope s_is_map, [], []⟩
def d_checked_maps : He.DefD := ⟨("checked_maps", none), "checked_maps", "checked_maps", defArgs s_checked_maps, defBody s_checked_maps, defScope s_checked_maps, [], []⟩
def d_checked_hand : He.DefD := ⟨("checked_hand", none), "checked_hand", "checked_hand", defArgs s_checked_hand, defBody s_checked_hand, defScope s_checked_hand, [], []⟩
def d_told_on : He.DefD := ⟨("told_on", none), "told_on", "told_on", defArgs s_told_on, defBody s_told_on, defScope s_told_on, [], []⟩
def d_checked_number : He.DefD := ⟨("checked_number", none), "checked_number", "checked_number", defArgs s_checked_number, defBody s_checked_number, defScope s_checked_number, [], []⟩
def d_longest_lasting : He.DefD := ⟨("longest_lasting", none), "longest_lasting", "longest_lasting", defArgs s_longest_lasting, defBody s_longest_lasting, defScope s_longest_lasting, [], []⟩
def d_told_rounds : He.DefD := ⟨("told_rounds", none), "told_rounds", "told_rounds", defArgs s_told_rounds, defBody s_told_rounds, defScope s_told_rounds, [], []⟩
def d_late_row : He.DefD := ⟨("late_row", none), "late_row", "late_row", defArgs s_late_row, defBody s_late_row, defScope s_late_row, [], []⟩
def d_l_m_reach : He.DefD := ⟨("_law_m_reach", none), "_law_m_reach", "_law_m_reach", defArgs s_l_m_reach, defBody s_l_m_reach, defScope s_l_m_reach, [], []⟩
def d_l_m_sources : He.DefD := ⟨("_law_m_sources", none), "_law_m_sources", "_law_m_sources", defArgs s_l_m_sources, defBody s_l_m_sources, defScope s_l_m_sources, [], []⟩
def d_l_m_sure : He.DefD := ⟨("_law_m_sure", none), "_law_m_sure", "_law_m_sure", defArgs s_l_m_sure, defBody s_l_m_sure, defScope s_l_m_sure, [], []⟩
def d_l_m_lossy : He.DefD := ⟨("_law_m_lossy", none), "_law_m_lossy", "_law_m_lossy", defArgs s_l_m_lossy, defBody s_l_m_lossy, defScope s_l_m_lossy, [], []⟩
def d_l_m_nested : He.DefD := ⟨("_law_m_nested", none), "_law_m_nested", "_law_m_nested", defArgs s_l_m_nested, defBody s_l_m_nested, defScope s_l_m_nested, [], []⟩
def d_l_m_deep : He.DefD := ⟨("_law_m_deep", none), "_law_m_deep", "_law_m_deep", defArgs s_l_m_deep, defBody s_l_m_deep, defScope s_l_m_deep, [], []⟩
def d_l_m_stars : He.DefD := ⟨("_law_m_stars", none), "_law_m_stars", "_law_m_stars", defArgs s_l_m_stars, defBody s_l_m_stars, defScope s_l_m_stars, [], []⟩
def d_l_m_maps : He.DefD := ⟨("_law_m_maps", none), "_law_m_maps", "_law_m_maps", defArgs s_l_m_maps, defBody s_l_m_maps, defScope s_l_m_maps, [], []⟩
def d_l_m_behind : He.DefD := ⟨("_law_m_behind", none), "_law_m_behind", "_law_m_behind", defArgs s_l_m_behind, defBody s_l_m_behind, defScope s_l_m_behind, [], []⟩
def d_l_m_lots : He.DefD := ⟨("_law_m_lots", none), "_law_m_lots", "_law_m_lots", defArgs s_l_m_lots, defBody s_l_m_lots, defScope s_l_m_lots, [], []⟩
def d_l_m_met : He.DefD := ⟨("_law_m_met", none), "_law_m_met", "_law_m_met", defArgs s_l_m_met, defBody s_l_m_met, defScope s_l_m_met, [], []⟩
def d_l_m_world : He.DefD := ⟨("_law_m_world", none), "_law_m_world", "_law_m_world", defArgs s_l_m_world, defBody s_l_m_world, defScope s_l_m_world, [], []⟩
def d_l_start : He.DefD := ⟨("_law_start", none), "_law_start", "_law_start", defArgs s_l_start, defBody s_l_start, defScope s_l_start, [], []⟩
def d_l_draw : He.DefD := ⟨("_law_draw", none), "_law_draw", "_law_draw", defArgs s_l_draw, defBody s_l_draw, defScope s_l_draw, [], []⟩
def d_l_pick : He.DefD := ⟨("_law_pick", none), "_law_pick", "_law_pick", defArgs s_l_pick, defBody s_l_pick, defScope s_l_pick, [], []⟩
def d_l_mixed : He.DefD := ⟨("_law_mixed", none), "_law_mixed", "_law_mixed", defArgs s_l_mixed, defBody s_l_mixed, defScope s_l_mixed, [], []⟩
def d_l_same : He.DefD := ⟨("_law_same", none), "_law_same", "_law_same", defArgs s_l_same, defBody s_l_same, defScope s_l_same, [], []⟩
def d_l_each_once : He.DefD := ⟨("_law_each_once", none), "_law_each_once", "_law_each_once", defArgs s_l_each_once, defBody s_l_each_once, defScope s_l_each_once, [], []⟩
def d_l_hands : He.DefD := ⟨("_law_hands", none), "_law_hands", "_law_hands", defArgs s_l_hands, defBody s_l_hands, defScope s_l_hands, [], []⟩
def d_l_map : He.DefD := ⟨("_law_map", none), "_law_map", "_law_map", defArgs s_l_map, defBody s_l_map, defScope s_l_map, [], []⟩
def d_l_plain_map : He.DefD := ⟨("_law_plain_map", none), "_law_plain_map", "_law_plain_map", defArgs s_l_plain_map, defBody s_l_plain_map, defScope s_l_plain_map, [], []⟩
def d_l_maps : He.DefD := ⟨("_law_maps", none), "_law_maps", "_law_maps", defArgs s_l_maps, defBody s_l_maps, defScope s_l_maps, [], []⟩
def d_l_rows_of : He.DefD := ⟨("_law_rows_of", none), "_law_rows_of", "_law_rows_of", defArgs s_l_rows_of, defBody s_l_rows_of, defScope s_l_rows_of, [], []⟩
def d_l_late_lots : He.DefD := ⟨("_law_late_lots", none), "_law_late_lots", "_law_late_lots", defArgs s_l_late_lots, defBody s_l_late_lots, defScope s_l_late_lots, [], []⟩
def d_l_first_late : He.DefD := ⟨("_law_first_late", none), "_law_first_late", "_law_first_late", defArgs s_l_first_late, defBody s_l_first_late, defScope s_l_first_late, [], []⟩
def d_l_by_all : He.DefD := ⟨("_law_by_all", none), "_law_by_all", "_law_by_all", defArgs s_l_by_all, defBody s_l_by_all, defScope s_l_by_all, [], []⟩
def d_law : He.DefD := ⟨("law", none), "law", "law", defArgs s_law, defBody s_law, defScope s_law, [], []⟩
def d_BadNumber_init : He.DefD := ⟨("BadNumber", some "__init__"), "__init__", "BadNumber.__init__", defArgs s_BadNumber_init, defBody s_BadNumber_init, defScope s_BadNumber_init, [], []⟩
def d_NoHand_init : He.DefD := ⟨("NoHand", some "__init__"), "__init__", "NoHand.__init__", defArgs s_NoHand_init, defBody s_NoHand_init, defScope s_NoHand_init, [], []⟩
def d_Maps_init : He.DefD := ⟨("Maps", some "__init__"), "__init__", "Maps.__init__", defArgs s_Maps_init, defBody s_Maps_init, defScope s_Maps_init, [], []⟩
def d_Maps_hands : He.DefD := ⟨("Maps", some "hands"), "hands", "Maps.hands", defArgs s_Maps_hands, defBody s_Maps_hands, defScope s_Maps_hands, [], []⟩
def d_Maps_maps : He.DefD := ⟨("Maps", some "maps"), "maps", "Maps.maps", defArgs s_Maps_maps, defBody s_Maps_maps, defScope s_Maps_maps, [], []⟩
def fn : List He.DefD := [d_is_list, d_is_integer, d_is_name, d_checked_hands, d_is_hand_of, d_is_map, d_checked_maps, d_checked_hand, d_told_on, d_checked_number, d_longest_lasting, d_told_rounds, d_late_row, d_l_m_reach, d_l_m_sources, d_l_m_sure, d_l_m_lossy, d_l_m_nested, d_l_m_deep, d_l_m_stars, d_l_m_maps, d_l_m_behind, d_l_m_lots, d_l_m_met, d_l_m_world, d_l_start, d_l_draw, d_l_pick, d_l_mixed, d_l_same] ++ [d_l_each_once, d_l_hands, d_l_map, d_l_plain_map, d_l_maps, d_l_rows_of, d_l_late_lots, d_l_first_late, d_l_by_all, d_law, d_BadNumber_init, d_NoHand_init, d_Maps_init, d_Maps_hands, d_Maps_maps]
def fa1 : List He.Fa := [.glo "PlanError", .glo "BadCourse", .glo "BadHands", .glo "BadLook", .glo "BadLot", .glo "BadMap", .glo "BadNumber", .glo "BadPlan", .glo "BadRow", .glo "HasPlan", .glo "NoBar", .glo "NoHand", .glo "NoMap", .glo "NoPlan", .glo "Maps", .glo "is_list", .glo "is_integer", .glo "is_name", .glo "checked_hands", .glo "is_hand_of", .glo "is_map", .glo "checked_maps", .glo "checked_hand", .glo "told_on", .glo "checked_number", .glo "longest_lasting", .glo "told_rounds", .glo "late_row", .glo "_law_m_reach", .glo "_law_m_sources"]
def fa2 : List He.Fa := [.glo "_law_m_sure", .glo "_law_m_lossy", .glo "_law_m_nested", .glo "_law_m_deep", .glo "_law_m_stars", .glo "_law_m_maps", .glo "_law_m_behind", .glo "_law_m_lots", .glo "_law_m_met", .glo "_law_m_world", .glo "_law_start", .glo "_law_draw", .glo "_law_pick", .glo "_law_mixed", .glo "_law_same", .glo "_law_each_once", .glo "_law_hands", .glo "_law_map", .glo "_law_plain_map", .glo "_law_maps", .glo "_law_rows_of", .glo "_law_late_lots", .glo "_law_first_late", .glo "_law_by_all", .glo "law"]
def fa3 : List He.Fa := [.free "isinstance", .free "list", .free "tuple", .free "int", .free "bool", .free "str", .free "dict", .free "len", .free "all", .free "any", .free "enumerate", .free "sorted", .free "min", .free "max", .free "range", .free "zip", .free "ValueError", .int "FOR_EVER" 10000000000, .str "SMALL" "abcdefghijklmnopqrstuvwxyz", .str "FIGURES" "0123456789", .cls "Maps", .noat "Maps" "own_hands", .noat "Maps" "own_maps", .meth "Maps" "hands", .meth "Maps" "maps", .mkr "Maps", .exm "NoHand" "NoMap" false, .exm "NoHand" "NoHand" true, .exm "BadNumber" "NoMap" false, .exm "BadNumber" "NoHand" false, .exm "BadNumber" "BadLot" false, .exm "BadNumber" "NoBar" false, .exm "BadNumber" "BadNumber" true]
def fa : List He.Fa := fa1 ++ (fa2 ++ fa3)
def loose1 : List PySem.Str := ["PlanError", "BadCourse", "BadHands", "BadLook", "BadLot", "BadMap", "BadNumber", "BadPlan", "BadRow", "HasPlan", "NoBar", "NoHand", "NoMap", "NoPlan", "Maps", "SMALL", "FIGURES", "FOR_EVER", "is_list", "is_integer", "is_name", "checked_hands", "is_hand_of", "is_map", "checked_maps", "checked_hand", "told_on", "checked_number", "longest_lasting", "told_rounds", "late_row", "_law_m_reach"]
def loose2 : List PySem.Str := ["_law_m_sources", "_law_m_sure", "_law_m_lossy", "_law_m_nested", "_law_m_deep", "_law_m_stars", "_law_m_maps", "_law_m_behind", "_law_m_lots", "_law_m_met", "_law_m_world", "_law_start", "_law_draw", "_law_pick", "_law_mixed", "_law_same", "_law_each_once", "_law_hands", "_law_map", "_law_plain_map", "_law_maps", "_law_rows_of", "_law_late_lots", "_law_first_late", "_law_by_all"]
def loose : List PySem.Str := loose1 ++ loose2
/-! an own exception class over own classes over ValueError, by a look -/
def oexB (K : PySem.W.Frag) (C : Addr) : Bool := (match K.lookup C with
  | some ⟨.type "type", _, .cls cd, sl⟩ => (match cd.mro, sl.toList with
    | .ref C' :: bm, [_, _, _, _, some (.builtin n), _] => C' == C && n == "ValueError.__new__" && !cd.hasDel && cd.hasDict && PySem.HandSPX.refsVE bm
    | _, _ => false)
  | _ => false) && (decide (PySem.W.findIn K (.ref C) "__setattr__" = some (some (.builtin "object.__setattr__"))) && (decide (PySem.W.subIn K (.ref C) (.type "BaseException") = some true) && (decide (PySem.W.typeIn K (.ref C) = some (.type "type")) && PySem.W.keepIn K (.ref C))))
theorem oexB_ok {K : PySem.W.Frag} {C : Addr} (h : oexB K C = true) : OexC K C := by
  obtain ⟨q, h⟩ := Bool.and_eq_true_iff.mp h
  obtain ⟨h2, h⟩ := Bool.and_eq_true_iff.mp h
  obtain ⟨h3, h⟩ := Bool.and_eq_true_iff.mp h
  obtain ⟨h4, h5⟩ := Bool.and_eq_true_iff.mp h
  refine ⟨?_, of_decide_eq_true h2, of_decide_eq_true h3, of_decide_eq_true h4, h5⟩
  split at q
  · rename_i dd cd sl ho
    split at q
    · rename_i C' bm k0 k1 k2 k3 n k5 hm hs
      simp only [Bool.and_eq_true, beq_iff_eq, Bool.not_eq_true'] at q
      obtain ⟨⟨⟨⟨rfl, rfl⟩, hdel⟩, hd⟩, ht⟩ := q
      obtain ⟨nm, bs, mro, ns, qn, hd', sn, sub, ab, col, del⟩ := cd
      dsimp only at hm hdel hd
      subst hm hdel hd
      have hsl : sl = #[k0, k1, k2, k3, some (.builtin "ValueError.__new__"), k5] := by
        obtain ⟨l⟩ := sl
        simp only at hs
        rw [hs]
      subst hsl
      exact ⟨nm, qn, ns, bs, bm, sn, sub, ab, col, dd, k0, k1, k2, k3, k5, ho, ht⟩
    · cases q
  · cases q
/-- what is looked at of an exception class with one field, "thing" -/
def excB (K : PySem.W.Frag) (x : Str) : Bool := oexB K (He.ga K x) && (xfB K (He.ga K x) && (decide (PySem.W.findIn K (.ref (He.ga K x)) "thing" = some none) && (decide (PySem.W.findIn K (.ref (He.ga K x)) "__init__" = some (some (.ref (He.ma K (He.ga K x) "__init__")))) && decide (PySem.W.typeIn K (.ref (He.ma K (He.ga K x) "__init__")) = some (.type "function")))))
structure ExcF (K : PySem.W.Frag) (C fI : Addr) : Prop where
  oex : OexC K C
  xf : XfC K C
  no : PySem.W.findIn K (.ref C) "thing" = some none
  ini : PySem.W.findIn K (.ref C) "__init__" = some (some (.ref fI))
  ty : PySem.W.typeIn K (.ref fI) = some (.type "function")
theorem excB_ok {K : PySem.W.Frag} {x : Str} (h : excB K x = true) : ExcF K (He.ga K x) (He.ma K (He.ga K x) "__init__") := by
  obtain ⟨h1, h⟩ := Bool.and_eq_true_iff.mp h
  obtain ⟨h2, h⟩ := Bool.and_eq_true_iff.mp h
  obtain ⟨h3, h⟩ := Bool.and_eq_true_iff.mp h
  obtain ⟨h4, h5⟩ := Bool.and_eq_true_iff.mp h
  exact ⟨oexB_ok h1, xfB_ok h2, of_decide_eq_true h3, of_decide_eq_true h4, of_decide_eq_true h5⟩
def ex (K : PySem.W.Frag) : Bool := excB K "NoHand" && excB K "BadNumber"
def tf : List He.Defn := [("law", none)]
abbrev R : PySem.W.OpenRow := PySem.W.OpenLaw.row PySem.Challenge.rw_breakplans_k09_whole_told_to_all
abbrev hk : PySem.W.Hook := He.hookX 6 fa fn [] tf ex
def ob (s : PySem.W.SharedT) : He.AlX := He.obsX 6 fa fn [] tf ex (HandSHeadRun.getT s)
theorem ob_eq (s : PySem.W.SharedT) : ob s = hk.obs s.abs := He.obsX_eq (HandSHeadRun.getT_eq s)
end K9

/-! ## KHead -/
set_option maxHeartbeats 0
namespace K9
open PySem PySem.Spec PyProof.Rows L2
theorem run (w : World) : HandSHeadRun.RunEq R (PySem.W.view R.prog [63]) hk ob 6000 loose w := by
  intro os
  kernel_rfl
end K9

/-! ## KData -/
namespace K9
open PySem PySem.Spec PyProof.Rows L2
/-! ### the order of texts -/
theorem lt_irr : ∀ a : List Nat, ltCps a a = false
  | [] => rfl
  | x :: r => by simp [ltCps, lt_irr r]
theorem lt_asym : ∀ a b : List Nat, ltCps a b = true → ltCps b a = false
  | [], [], h => rfl
  | [], _ :: _, h => rfl
  | _ :: _, [], h => by cases h
  | x :: r, y :: t, h => by
    simp only [ltCps, Bool.or_eq_true, decide_eq_true_eq, Bool.and_eq_true, beq_iff_eq] at h
    simp only [ltCps, Bool.or_eq_false_iff, decide_eq_false_iff_not, Bool.and_eq_false_iff]
    rcases h with h | ⟨h1, h2⟩
    · refine ⟨by omega, .inl ?_⟩
      have : y ≠ x := by omega
      simpa using this
    · exact ⟨by omega, .inr (lt_asym r t h2)⟩
theorem lt_tri : ∀ a b : List Nat, ltCps a b = false → ltCps b a = false → a = b
  | [], [], _, _ => rfl
  | [], _ :: _, h, _ => by cases h
  | _ :: _, [], _, h => by cases h
  | x :: r, y :: t, h, h' => by
    simp only [ltCps, Bool.or_eq_false_iff, decide_eq_false_iff_not, Bool.and_eq_false_iff] at h h'
    have e : x = y := by omega
    subst e
    have h1 : ltCps r t = false := by simpa using h.2
    have h2 : ltCps t r = false := by simpa using h'.2
    rw [lt_tri r t h1 h2]
theorem lt_neg : ∀ a b c : List Nat, ltCps b a = false → ltCps c b = false → ltCps c a = false
  | [], _, [], _, _ => rfl
  | [], [], _ :: _, h, h' => by cases h'; rfl
  | [], _ :: _, _ :: _, h, h' => rfl
  | _ :: _, [], _, h, _ => by cases h
  | _ :: _, _ :: _, [], _, h' => by cases h'
  | x :: r, y :: t, z :: u, h, h' => by
    simp only [ltCps, Bool.or_eq_false_iff, decide_eq_false_iff_not, Bool.and_eq_false_iff] at h h' ⊢
    refine ⟨by omega, ?_⟩
    by_cases e : z = x
    · refine .inr (lt_neg r t u ?_ ?_)
      · have e2 : y = x := by omega
        subst e2
        simpa using h.2
      · have e2 : z = y := by omega
        subst e2
        simpa using h'.2
    · exact .inl (by simpa using e)
def leS (a b : Str) : Bool := !ltCps b.cps.toList a.cps.toList
theorem leS_trans (a b c : Str) (h1 : leS a b = true) (h2 : leS b c = true) : leS a c = true := by
  unfold leS at *
  simp only [Bool.not_eq_true'] at *
  exact lt_neg _ _ _ h1 h2
theorem leS_total (a b : Str) : (leS a b || leS b a) = true := by
  unfold leS
  cases h : ltCps b.cps.toList a.cps.toList with
  | false => rfl
  | true => rw [lt_asym _ _ h]; rfl
theorem leS_anti (a b : Str) (h1 : leS a b = true) (h2 : leS b a = true) : a = b := by
  unfold leS at *
  simp only [Bool.not_eq_true'] at *
  have e := lt_tri _ _ h2 h1
  obtain ⟨⟨x⟩⟩ := a
  obtain ⟨⟨y⟩⟩ := b
  simp only at e
  rw [e]
theorem risingS_pw : ∀ (l : List Str) (p : Str), risingS p l = true → (p :: l).Pairwise (fun a b => leS a b = true)
  | [], p, _ => by simp
  | x :: r, p, h => by
    unfold risingS at h
    simp only [Bool.and_eq_true] at h
    have ih := risingS_pw r x h.2
    refine List.pairwise_cons.mpr ⟨fun y hy => ?_, ih⟩
    rcases List.mem_cons.mp hy with e | hy
    · rw [e]; exact h.1
    · exact leS_trans p x y h.1 ((List.pairwise_cons.mp ih).1 y hy)
theorem sortedS_pw {l : List Str} (h : sortedS l = true) : l.Pairwise (fun a b => leS a b = true) := by
  cases l with
  | nil => exact .nil
  | cons x r => exact risingS_pw r x h
/-- the sorted list -/
def srt (xs : List Str) : List Str := xs.mergeSort leS
theorem srt_perm (xs : List Str) : (srt xs).Perm xs := List.mergeSort_perm ..
theorem srt_pw (xs : List Str) : (srt xs).Pairwise (fun a b => leS a b = true) := List.pairwise_mergeSort leS_trans leS_total xs
theorem pw_unique {xs ys : List Str} (h1 : xs.Pairwise (fun a b => leS a b = true)) (h2 : ys.Pairwise (fun a b => leS a b = true)) (p : xs.Perm ys) : xs = ys :=
  List.Perm.eq_of_pairwise (le := fun a b => leS a b = true) (fun a b _ _ => leS_anti a b) h1 h2 p
theorem srt_is {xs ys : List Str} (p : ys.Perm xs) (h : sortedS ys = true) : ys = srt xs := pw_unique (sortedS_pw h) (srt_pw xs) (p.trans (srt_perm xs).symm)
theorem srt_congr {xs ys : List Str} (p : xs.Perm ys) : srt xs = srt ys := pw_unique (srt_pw _) (srt_pw _) ((srt_perm xs).trans (p.trans (srt_perm ys).symm))
theorem mem_srt {xs : List Str} {x : Str} : x ∈ srt xs ↔ x ∈ xs := (srt_perm xs).mem_iff
theorem srt_len (xs : List Str) : (srt xs).length = xs.length := (srt_perm xs).length_eq
theorem srt_srt (xs : List Str) : srt (srt xs) = srt xs := srt_congr (srt_perm xs)
theorem srt_nd {xs : List Str} (h : xs.Nodup) : (srt xs).Nodup := (srt_perm xs).nodup_iff.mpr h
/-! ### heaps, parts of them left out -/
def hid (S : List Addr) (H : Hp) : Hp := fun a => if a ∈ S then none else H a
theorem hid_at {S : List Addr} {H : Hp} {a : Addr} {o : HO} (h : hid S H a = some o) : a ∉ S ∧ H a = some o := by
  unfold hid at h
  split at h
  · cases h
  · exact ⟨by assumption, h⟩
theorem hid_of {S : List Addr} {H : Hp} {a : Addr} {o : HO} (n : a ∉ S) (h : H a = some o) : hid S H a = some o := by
  unfold hid
  rw [if_neg n]
  exact h
theorem hid_le {S : List Addr} {H : Hp} : Same (hid S H) H := fun _ _ h => (hid_at h).2
theorem same_hid {S : List Addr} {H H' : Hp} (s : Same H H') : Same (hid S H) (hid S H') := fun a o h => hid_of (hid_at h).1 (s a o (hid_at h).2)
theorem hid_sub {S T : List Addr} {H : Hp} (h : ∀ a ∈ S, a ∈ T) : Same (hid T H) (hid S H) := fun a o e => hid_of (fun z => (hid_at e).1 (h a z)) (hid_at e).2
theorem hid_in {S : List Addr} {H : Hp} {a : Addr} {o : HO} (h : a ∈ S) : hid S (upd H a o) = hid S H := by
  funext b
  unfold hid
  by_cases hb : b ∈ S
  · rw [if_pos hb, if_pos hb]
  · rw [if_neg hb, if_neg hb]
    exact upd_ne fun e => hb (e ▸ h)
theorem same_new {H : Hp} {p : Addr} {o : HO} (h : H p = none) : Same H (upd H p o) := fun b x e => by
  rw [upd_ne (ne_of_none e h)]
  exact e
/-- an object that H does not know may change -/
theorem same_mut {H H' : Hp} {p : Addr} {o : HO} (e : Same H H') (h : H p = none) : Same H (upd H' p o) := fun a u ha => by
  rw [upd_ne (ne_of_none ha h)]
  exact e a u ha
theorem hid_none {S : List Addr} {H : Hp} {a : Addr} (h : H a = none) : hid S H a = none := by
  unfold hid
  split
  · rfl
  · exact h
/-! ### data -/
abbrev Strs (H : Hp) (a : Addr) (xs : List Str) : Prop := H a = some (.lst (xs.map V.str))
abbrev StrT (H : Hp) (a : Addr) (xs : List Str) : Prop := H a = some (.tup (xs.map V.str))
def mkv (ks : List Str) (ad : Str → Addr) : List (Key × V) := ks.map fun k => ((Sum.inr k : Key), V.ref (ad k))
theorem mkv_keys (ks : List Str) (ad : Str → Addr) : (mkv ks ad).map (·.1) = ks.map Sum.inr := by unfold mkv; rw [List.map_map]; rfl
theorem mkv_len (ks : List Str) (ad : Str → Addr) : (mkv ks ad).length = ks.length := by unfold mkv; rw [List.length_map]
theorem valV_mkv {ad : Str → Addr} : ∀ {ks : List Str} {k : Str}, k ∈ ks → valV (mkv ks ad) (Sum.inr k : Key) = some (V.ref (ad k))
  | [], k, h => by simp at h
  | x :: r, k, h => by
    unfold valV mkv
    rw [List.map_cons, List.find?_cons]
    by_cases e : x = k
    · subst e
      simp
    · have ne : ¬ ((Sum.inr x : Key) = Sum.inr k) := fun q => e (Sum.inr.inj q)
      rw [decide_eq_false ne]
      have hk : k ∈ r := by
        rcases List.mem_cons.mp h with q | q
        · exact absurd q.symm e
        · exact q
      exact valV_mkv hk
theorem valV_mkv_none {ad : Str → Addr} {ks : List Str} {k : Str} (h : k ∉ ks) : valV (mkv ks ad) (Sum.inr k : Key) = none := by
  unfold valV mkv
  rw [List.find?_eq_none.mpr]
  · rfl
  · intro x hx
    obtain ⟨y, hy, rfl⟩ := List.mem_map.mp hx
    have ne : ¬ ((Sum.inr y : Key) = Sum.inr k) := fun q => h (Sum.inr.inj q ▸ hy)
    simpa using ne
abbrev Mp := Str → List Str
/-- at d stands a dict whose keys are hs in some order, the value of k a list m k -/
def MapP (H : Hp) (hs : List Str) (d : Addr) (m : Mp) : Prop := ∃ (ks : List Str) (ad : Str → Addr), ks.Perm hs ∧ H d = some (.dK (mkv ks ad)) ∧ ∀ k ∈ hs, Strs H (ad k) (m k)
/-- .. in that very order -/
def MapA (H : Hp) (hs : List Str) (d : Addr) (m : Mp) : Prop := ∃ ad : Str → Addr, H d = some (.dK (mkv hs ad)) ∧ ∀ k ∈ hs, Strs H (ad k) (m k)
theorem MapA.p {H : Hp} {hs : List Str} {d : Addr} {m : Mp} (h : MapA H hs d m) : MapP H hs d m := let ⟨ad, h1, h2⟩ := h; ⟨hs, ad, .refl _, h1, h2⟩
theorem MapP.mono {H H' : Hp} {hs : List Str} {d : Addr} {m : Mp} (s : Same H H') (h : MapP H hs d m) : MapP H' hs d m := let ⟨ks, ad, h0, h1, h2⟩ := h; ⟨ks, ad, h0, s _ _ h1, fun k hk => s _ _ (h2 k hk)⟩
theorem MapA.mono {H H' : Hp} {hs : List Str} {d : Addr} {m : Mp} (s : Same H H') (h : MapA H hs d m) : MapA H' hs d m := let ⟨ad, h1, h2⟩ := h; ⟨ad, s _ _ h1, fun k hk => s _ _ (h2 k hk)⟩
theorem MapP.perm {H : Hp} {hs ys : List Str} {d : Addr} {m : Mp} (p : hs.Perm ys) (h : MapP H hs d m) : MapP H ys d m := let ⟨ks, ad, h0, h1, h2⟩ := h; ⟨ks, ad, h0.trans p, h1, fun k hk => h2 k (p.mem_iff.mpr hk)⟩
/-- a list of maps -/
def MapsP (H : Hp) (hs : List Str) (l : Addr) (ms : List Mp) : Prop := ∃ ds : List Addr, H l = some (.lst (ds.map V.ref)) ∧ Paired (MapP H hs) ds ms
def MapsA (H : Hp) (hs : List Str) (l : Addr) (ms : List Mp) : Prop := ∃ ds : List Addr, H l = some (.lst (ds.map V.ref)) ∧ Paired (MapA H hs) ds ms
theorem MapsA.p {H : Hp} {hs : List Str} {l : Addr} {ms : List Mp} (h : MapsA H hs l ms) : MapsP H hs l ms := let ⟨ds, h1, h2⟩ := h; ⟨ds, h1, L2.Paired.mapP h2 (fun _ _ => MapA.p)⟩
theorem MapsP.mono {H H' : Hp} {hs : List Str} {d : Addr} {ms : List Mp} (s : Same H H') (h : MapsP H hs d ms) : MapsP H' hs d ms := let ⟨ds, h1, h2⟩ := h; ⟨ds, s _ _ h1, L2.Paired.mapP h2 (fun _ _ => MapP.mono s)⟩
theorem MapsA.mono {H H' : Hp} {hs : List Str} {d : Addr} {ms : List Mp} (s : Same H H') (h : MapsA H hs d ms) : MapsA H' hs d ms := let ⟨ds, h1, h2⟩ := h; ⟨ds, s _ _ h1, L2.Paired.mapP h2 (fun _ _ => MapA.mono s)⟩
theorem MapsP.perm {H : Hp} {hs ys : List Str} {d : Addr} {ms : List Mp} (p : hs.Perm ys) (h : MapsP H hs d ms) : MapsP H ys d ms := let ⟨ds, h1, h2⟩ := h; ⟨ds, h1, L2.Paired.mapP h2 (fun _ _ => MapP.perm p)⟩
theorem paired_at {α β : Type} {F : α → β → Prop} : ∀ {l₁ : List α} {l₂ : List β} {i : Nat} {a : α}, Paired F l₁ l₂ → l₁[i]? = some a → ∃ b, l₂[i]? = some b ∧ F a b
  | _, _, _, _, .nil, h => by simp at h
  | _, _, 0, a, .cons r _, h => by
    have e := Option.some.inj (show some _ = some a by simpa using h)
    subst e
    exact ⟨_, rfl, r⟩
  | _, _, i + 1, a, .cons _ t, h => by
    obtain ⟨b, h1, h2⟩ := paired_at (i := i) t (by simpa using h)
    exact ⟨b, by simpa using h1, h2⟩
theorem paired_at' {α β : Type} {F : α → β → Prop} : ∀ {l₁ : List α} {l₂ : List β} {i : Nat} {b : β}, Paired F l₁ l₂ → l₂[i]? = some b → ∃ a, l₁[i]? = some a ∧ F a b
  | _, _, _, _, .nil, h => by simp at h
  | _, _, 0, a, .cons r _, h => by
    have e := Option.some.inj (show some _ = some a by simpa using h)
    subst e
    exact ⟨_, rfl, r⟩
  | _, _, i + 1, a, .cons _ t, h => by
    obtain ⟨b, h1, h2⟩ := paired_at' (i := i) t (by simpa using h)
    exact ⟨b, by simpa using h1, h2⟩
theorem paired_take {α β : Type} {F : α → β → Prop} : ∀ {l₁ : List α} {l₂ : List β} (n : Nat), Paired F l₁ l₂ → Paired F (l₁.take n) (l₂.take n)
  | _, _, 0, _ => .nil
  | _, _, _ + 1, .nil => .nil
  | _, _, n + 1, .cons r t => .cons r (paired_take n t)
theorem map_at {α β : Type} {f : α → β} {l : List α} {i : Nat} {y : β} (h : (l.map f)[i]? = some y) : ∃ x, l[i]? = some x ∧ y = f x := by
  rw [List.getElem?_map] at h
  cases e : l[i]? with
  | none => rw [e] at h; cases h
  | some x => rw [e] at h; exact ⟨x, rfl, (Option.some.inj h).symm⟩
theorem map_get {α β : Type} {f : α → β} {l : List α} {i : Nat} {x : α} (h : l[i]? = some x) : (l.map f)[i]? = some (f x) := by rw [List.getElem?_map, h]; rfl
theorem at_lt {α : Type} {l : List α} {i : Nat} {x : α} (h : l[i]? = some x) : i < l.length := (List.getElem?_eq_some_iff.mp h).1
theorem at_mem {α : Type} {l : List α} {i : Nat} {x : α} (h : l[i]? = some x) : x ∈ l := List.mem_of_getElem? h
theorem take_more {α : Type} {l : List α} {i : Nat} {x : α} (h : l[i]? = some x) : l.take (i + 1) = l.take i ++ [x] := by
  rw [List.take_add_one, h]; rfl
/-! ### the stream of draws: the list at p, its cells at q; c draws so far -/
structure Stm (H : Hp) (p q : Addr) (c : Nat) : Prop where
  ex : ∃ (ns : List Int) (n m : Int), H p = some (.lst [.ref q, .int n, .int (c : Int), .int m]) ∧ H q = some (.lst (ns.map V.int)) ∧ 0 ≤ n ∧ 0 ≤ m ∧ m < 2147483647
  ne : p ≠ q
theorem Stm.mono {H H' : Hp} {p q : Addr} {c : Nat} (s : Same H H') (h : Stm H p q c) : Stm H' p q c := let ⟨ns, n, m, h1, h2, h3⟩ := h.ex; ⟨⟨ns, n, m, s _ _ h1, s _ _ h2, h3⟩, h.ne⟩
theorem Stm.pn {H : Hp} {p q : Addr} {c : Nat} (h : Stm H p q c) {a : Addr} (n : H a = none) : a ≠ p ∧ a ≠ q := by
  obtain ⟨ns, x, m, h1, h2, _⟩ := h.ex
  exact ⟨(ne_of_none h1 n).symm, (ne_of_none h2 n).symm⟩
/-- all but the stream stays -/
abbrev Kp (p q : Addr) (H H' : Hp) : Prop := Same (hid [p, q] H) (hid [p, q] H')
theorem Kp.of {p q : Addr} {H H' : Hp} (s : Same H H') : Kp p q H H' := same_hid s
theorem Stm.nin {H : Hp} {p q : Addr} {c : Nat} (h : Stm H p q c) {a : Addr} (n : H a = none) : a ∉ [p, q] := by
  obtain ⟨n1, n2⟩ := h.pn n
  simp [n1, n2]
/-- maps by which the letters go: all hear themselves, none is heard twice -/
structure GM (hs : List Str) (m : Mp) : Prop where
  self : ∀ k ∈ hs, k ∈ m k
  sub : ∀ k ∈ hs, ∀ o ∈ m k, o ∈ hs
  nd : ∀ k ∈ hs, (m k).Nodup
def Eqm (hs : List Str) (m m' : Mp) : Prop := ∀ k ∈ hs, srt (m k) = srt (m' k)
/-! ### defs called by name -/
def glos : List Str := fa.filterMap fun f => match f with | .glo x => some x | _ => none
def frees : List Str := fa.filterMap fun f => match f with | .free x => some x | _ => none
structure Tx (K : PySem.W.Frag) (mg : Str → Option Value) : Prop where
  g : ∀ x ∈ glos, mg x = some (.ref (He.ga K x))
  z : ∀ x ∈ frees, mg x = none
  f : ∀ d ∈ fn, ∃ fd, FunD K d.name d.qual d.params d.body d.scope [] [] (He.fAd K d.at_) fd
  fe : ∃ t, mg "FOR_EVER" = some (.int 10000000000 t)
  sm : ∃ t, mg "SMALL" = some (.str "abcdefghijklmnopqrstuvwxyz" t)
  fi : ∃ t, mg "FIGURES" = some (.str "0123456789" t)
  cM : Cls K (He.ga K "Maps")
  nH : NoAttr K (He.ga K "Maps") "own_hands"
  nM : NoAttr K (He.ga K "Maps") "own_maps"
  mH : Meth K (He.ga K "Maps") "hands" (He.ma K (He.ga K "Maps") "hands")
  mM : Meth K (He.ga K "Maps") "maps" (He.ma K (He.ga K "Maps") "maps")
  mkM : Mk K (He.ga K "Maps") (He.ma K (He.ga K "Maps") "__init__")
  eH : ExcF K (He.ga K "NoHand") (He.ma K (He.ga K "NoHand") "__init__")
  eN : ExcF K (He.ga K "BadNumber") (He.ma K (He.ga K "BadNumber") "__init__")
  x1 : PySem.W.exmOne K (.ref (He.ga K "NoHand")) (.ref (He.ga K "NoMap")) = some false
  x2 : PySem.W.exmOne K (.ref (He.ga K "NoHand")) (.ref (He.ga K "NoHand")) = some true
  y1 : PySem.W.exmOne K (.ref (He.ga K "BadNumber")) (.ref (He.ga K "NoMap")) = some false
  y2 : PySem.W.exmOne K (.ref (He.ga K "BadNumber")) (.ref (He.ga K "NoHand")) = some false
  y3 : PySem.W.exmOne K (.ref (He.ga K "BadNumber")) (.ref (He.ga K "BadLot")) = some false
  y4 : PySem.W.exmOne K (.ref (He.ga K "BadNumber")) (.ref (He.ga K "NoBar")) = some false
  y5 : PySem.W.exmOne K (.ref (He.ga K "BadNumber")) (.ref (He.ga K "BadNumber")) = some true
theorem Tx.G {K : PySem.W.Frag} {mg : Str → Option Value} (T : Tx K mg) (x : Str) (h : glos.contains x = true := by decide +kernel) : mg x = some (.ref (He.ga K x)) := T.g x (by simpa using h)
theorem Tx.Z {K : PySem.W.Frag} {mg : Str → Option Value} (T : Tx K mg) (x : Str) (h : frees.contains x = true := by decide +kernel) : mg x = none := T.z x (by simpa using h)
/-- the module's def x may be called: it keeps sp -/
def Ok (P : Program) (w : World) (K : PySem.W.Frag) (mg : Str → Option Value) (base : Heap) (CX : CXT) (k : Nat) (x : Str) (ps : List Str) (sp : Sp) : Prop :=
  ∃ fd, mg x = some (.ref (He.ga K x)) ∧ PySem.W.keepIn K (.ref (He.ga K x)) = true ∧ Binds K fd ps [] ∧ FnOk P w K mg base CX k (He.ga K x) fd ps sp
section
variable {P : Program} {w : World} {K : PySem.W.Frag} {mg : Str → Option Value} {base : Heap} {CX : CXT} {k j : Nat} {x : Str} {ps : List Str} {sp sp' : Sp}
theorem Ok.mono (F : Ok P w K mg base CX j x ps sp) (h : j ≤ k) : Ok P w K mg base CX k x ps sp := let ⟨fd, a, b, c, d⟩ := F; ⟨fd, a, b, c, d.mono h⟩
theorem Ok.imp (F : Ok P w K mg base CX k x ps sp) (h : ∀ vs H Q E, sp' vs H Q E → sp vs H Q E) : Ok P w K mg base CX k x ps sp' := let ⟨fd, a, b, c, d⟩ := F; ⟨fd, a, b, c, d.imp h⟩
/-- a def of the module by its body; ms: how its arguments bind -/
theorem ok_of {N : List Str} {st : Stmt} (T : Tx K mg) (d : He.DefD) (hd : d ∈ fn) (e1 : d.at_ = (x, none)) (e2 : d.name = x) (e3 : d.qual = x) (e4 : d.params = defArgs st) (e5 : d.body = defBody st) (e6 : d.scope = defScope st) (hg : glos.contains x = true) (S : FnScope N ps (defScope st))
    (hb : ∀ (kV doc pm : Value) (an : Option Addr) (cdv ct : Value) (us : List Value), us.length = ps.length → bindArgs (PySem.W.fnOf x x (defArgs st) (defBody st) (defScope st) .none kV doc pm an cdv ct) ⟨us, []⟩ = pure (ps.zip us))
    (len : ∀ vs H Q E, sp vs H Q E → vs.length = ps.length)
    (hbody : ∀ (f : Addr) (cdv : Value) (A : Around) (outer : List Env) (s : Shared) (H : Hp) (vs : List V) (Q : VK) (E : XK), Room k (A.deeper (envOfC x (defScope st) s.heap.objs.size f cdv)) → sp vs H Q E →
      ∃ t, PSs (cxOf CX P w K mg base N x (defScope st) f cdv A outer s H E) (defBody st) t ∧ t { nx := fun _ H' => Q .non H', rt := Q } (start N vs) H) : Ok P w K mg base CX (k + 1) x ps sp := by
  obtain ⟨fd, F⟩ := T.f d hd
  rw [e2, e3, e4, e5, e6, e1] at F
  have F' : FunD K x x (defArgs st) (defBody st) (defScope st) [] [] (He.ga K x) fd := F
  exact ⟨fd, T.G x hg, F'.kp, F'.bindsN hb, F'.ok S len fun cdv A outer s H vs Q E hr h => hbody _ cdv A outer s H vs Q E hr h⟩
end
section
variable {X : Cx} {CX : CXT} {k : Nat} {x : Str} {ps : List Str} {sp : Sp} {E : XK} {t : TA} {e : Expr} {es : List Expr} {p pos : Pos}
theorem pe_c (F : Ok X.prog X.w X.K X.mg X.base CX k x ps sp) (hr : Room k X.A) (hx : Passes CX X E) (ha : PA X (e :: es) t) (hg : Gl X x := by rfl) (hdb : (x == ("__debug__" : Str)) = false := by decide)
    (he : starEach (e :: es) X.env = (false, eval e X.env) :: starEach es X.env := by rfl) (hpl : (backTo pos (starEach es X.env)).any (·.1) = false := by rfl) :
    PE X (.Call (.Name x p) (e :: es) [] pos) (tCall sp [] E t) := by
  obtain ⟨fd, gm, kp, hb, F⟩ := F
  exact pe_call F hr hg gm kp hb .nil hx ha hdb he hpl
end
end K9

/-! ## KLc -/
set_option maxHeartbeats 1000000
namespace K9
open PySem PySem.Spec PyProof.Rows L2
theorem sz1000 {n : Nat} (h : n ≤ 1000) : n ≤ sizeLine := Nat.le_of_lt (small1000 h)
theorem range_snoc (p : Nat → Bool) (f : Nat → V) (i : Nat) : ((List.range (i + 1)).filter p).map f = if p i = true then ((List.range i).filter p).map f ++ [f i] else ((List.range i).filter p).map f := by
  rw [List.range_succ, List.filter_append, List.map_append]
  by_cases h : p i = true
  · rw [if_pos h, List.filter_cons_of_pos h]
    rfl
  · rw [if_neg h, List.filter_cons_of_neg h]
    simp
theorem range_filter_len (p : Nat → Bool) (i : Nat) : ((List.range i).filter p).length ≤ i := by
  have h := List.length_filter_le p (List.range i)
  rw [List.length_range] at h
  exact h
section
variable {J : It} {n : Nat} {G : Hp → Prop} {Y : Nat → Hp → V → Hp → Prop} {g : TG} {tt : TT} {te : TE} {vs : List Nat} {σ : L2.St} {H1 : Hp} {Qd : Addr → Hp → Prop}
/-- a comprehension that only makes objects: its values told by f, kept where p -/
theorem lcv (w : Walk J n G Y) (hn : n ≤ 1000) (p : Nat → Bool) (f : Nat → V) (hG : ∀ H, Same H1 H → G H) (hY : ∀ i H x H', i < n → Y i H x H' → Same H H')
    (hs : ∀ i x H H', i < n → Same H1 H → Y i H x H' → ∀ (Kt : VK) (Kf : Hp → Prop), (p i = true → ∀ H4, Same H' H4 → Kt (f i) H4) → (p i = false → ∀ H4, Same H' H4 → Kf H4) →
      g x (wipe σ vs) H' fun σ2 H2 => wipe σ2 vs = wipe σ vs ∧ tt σ2 H2 fun b H3 => if b = true then te σ2 H3 Kt else Kf H3)
    (hd : ∀ D H, H1 D = none → Same H1 H → H D = some (.lst (((List.range n).filter p).map f)) → Qd D H) :
    ∀ D, H1 D = none → ∃ W : Nat → Nat → Hp → Prop, (∃ m, W 0 m (upd H1 D (.lst []))) ∧ ∀ i m H, W i m H →
      (J.stop i H ∧ Qd D H) ∨ (J.go i H ∧ ∃ Nx : Hp → Prop, (∀ H', Nx H' → ∃ m', m' < m ∧ W (i + 1) m' H') ∧ ∀ x H', J.yld i H x H' → g x (wipe σ vs) H' fun σ2 H2 => wipe σ2 vs = wipe σ vs ∧ tt σ2 H2 fun b H3 =>
        if b = true then te σ2 H3 fun y H4 => ∃ acc, H4 D = some (.lst acc) ∧ acc.length < sizeLine ∧ Nx (upd H4 D (.lst (acc ++ [y]))) else Nx H3) := by
  intro D hD
  refine lc_it w (fun i H => Same H1 H ∧ H D = some (.lst (((List.range i).filter p).map f))) ⟨same_new hD, upd_same⟩ (fun i H _ h => hG H h.1) (fun i x H H' hi ⟨s1, hl⟩ y => ?_) (fun H ⟨s1, hl⟩ => hd D H hD s1 hl)
  have sY := hY i H x H' hi y
  refine hs i x H H' hi s1 y _ _ (fun hp H4 s4 => ?_) (fun hp H4 s4 => ?_)
  · refine ⟨_, s4 _ _ (sY _ _ hl), ?_, same_mut ((s1.trans sY).trans s4) hD, ?_⟩
    · have := range_filter_len p i
      rw [List.length_map]
      exact small1000 (by omega)
    · rw [upd_same, range_snoc, if_pos hp]
  · refine ⟨(s1.trans sY).trans s4, ?_⟩
    rw [range_snoc, if_neg (by rw [hp]; exact Bool.false_ne_true)]
    exact s4 _ _ (sY _ _ hl)
/-- any comprehension: I by the turn and the heap, S the objects that change; what is collected is told by R of the heap without them and the new list -/
theorem lcd (w : Walk J n G Y) (hn : n ≤ 1000) (S : List Addr) (p : Nat → Bool) (I : Addr → Nat → Hp → Prop) (R : Nat → V → Hp → Prop) (hR : ∀ i y H H', Same H H' → R i y H → R i y H')
    (h0 : ∀ D o, H1 D = none → I D 0 (upd H1 D o)) (hI : ∀ D i H o, H1 D = none → I D i H → I D i (upd H D o)) (hG : ∀ D i H, H1 D = none → i ≤ n → I D i H → G H)
    (hs : ∀ D i x H H' acc, H1 D = none → i < n → I D i H → H D = some (.lst acc) → Y i H x H' → ∀ (Kt : VK) (Kf : Hp → Prop),
      (p i = true → ∀ y H4, I D (i + 1) H4 → H4 D = some (.lst acc) → Same (hid (D :: S) H) (hid (D :: S) H4) → R i y (hid (D :: S) H4) → Kt y H4) →
      (p i = false → ∀ H4, I D (i + 1) H4 → H4 D = some (.lst acc) → Same (hid (D :: S) H) (hid (D :: S) H4) → Kf H4) →
      g x (wipe σ vs) H' fun σ2 H2 => wipe σ2 vs = wipe σ vs ∧ tt σ2 H2 fun b H3 => if b = true then te σ2 H3 Kt else Kf H3)
    (hd : ∀ D H ys, H1 D = none → I D n H → H D = some (.lst ys) → Paired (fun i y => R i y (hid (D :: S) H)) ((List.range n).filter p) ys → Qd D H) :
    ∀ D, H1 D = none → ∃ W : Nat → Nat → Hp → Prop, (∃ m, W 0 m (upd H1 D (.lst []))) ∧ ∀ i m H, W i m H →
      (J.stop i H ∧ Qd D H) ∨ (J.go i H ∧ ∃ Nx : Hp → Prop, (∀ H', Nx H' → ∃ m', m' < m ∧ W (i + 1) m' H') ∧ ∀ x H', J.yld i H x H' → g x (wipe σ vs) H' fun σ2 H2 => wipe σ2 vs = wipe σ vs ∧ tt σ2 H2 fun b H3 =>
        if b = true then te σ2 H3 fun y H4 => ∃ acc, H4 D = some (.lst acc) ∧ acc.length < sizeLine ∧ Nx (upd H4 D (.lst (acc ++ [y]))) else Nx H3) := by
  intro D hD
  refine lc_it w (fun i H => I D i H ∧ ∃ ys, H D = some (.lst ys) ∧ Paired (fun j y => R j y (hid (D :: S) H)) ((List.range i).filter p) ys) ⟨h0 D _ hD, [], upd_same, .nil⟩ (fun i H hi h => hG D i H hD hi h.1) (fun i x H H' hi ⟨s1, ys, hl, hp⟩ y => ?_) (fun H ⟨s1, ys, hl, hp⟩ => hd D H ys hD s1 hl hp)
  refine hs D i x H H' ys hD hi s1 hl y _ _ (fun hpi y H4 i4 l4 s4 r4 => ?_) (fun hpi H4 i4 l4 s4 => ?_)
  · refine ⟨_, l4, ?_, hI D _ _ _ hD i4, _, upd_same, ?_⟩
    · have h1 := range_filter_len p i
      have h2 := hp.length
      exact small1000 (by omega)
    · rw [hid_in (List.mem_cons_self)]
      rw [List.range_succ, List.filter_append, List.filter_cons_of_pos hpi]
      exact Paired.snoc (L2.Paired.mapP hp fun j z h => hR j z _ _ s4 h) r4
  · refine ⟨i4, ys, l4, ?_⟩
    rw [List.range_succ, List.filter_append, List.filter_cons_of_neg (by rw [hpi]; exact Bool.false_ne_true)]
    rw [List.filter_nil, List.append_nil]
    exact L2.Paired.mapP hp fun j z h => hR j z _ _ s4 h
end
theorem iteB {d : Bool} {A B : Prop} (h : d = true) (x : A) : if d = true then A else B := by rw [h]; exact iteT x
theorem iteBF {d : Bool} {A B : Prop} (h : d = false) (x : B) : if d = true then A else B := by rw [h]; exact iteF x
theorem iteN {d : Bool} {A B : Prop} (h : d = true) (x : B) : if (!d) = true then A else B := by rw [h]; exact iteF x
theorem iteNF {d : Bool} {A B : Prop} (h : d = false) (x : A) : if (!d) = true then A else B := by rw [h]; exact iteT x
theorem tyes {te : TE} {σ : L2.St} {H : Hp} {Kt : VK} {Kf : Hp → Prop} (h : te σ H Kt) : tYes σ H (fun b H3 => if b = true then te σ H3 Kt else Kf H3) := iteT (B := Kf H) h
theorem l_range {α : Type} (l : List α) (d : α) : (List.range l.length).map (fun i => l.getD i d) = l := by
  apply List.ext_getElem
  · simp
  · intro i h1 h2
    simp [List.getD, h2]
theorem l_filter {α : Type} (l : List α) (d : α) (P : α → Bool) (g : α → V) : ((List.range l.length).filter (fun i => P (l.getD i d))).map (fun i => g (l.getD i d)) = (l.filter P).map g := by
  have e : (l.filter P).map g = (((List.range l.length).map (fun i => l.getD i d)).filter P).map g := by rw [l_range]
  rw [e, List.filter_map, List.map_map]
  rfl
section
variable {g : TG} {tt : TT} {te : TE} {vs : List Nat} {σ : L2.St} {H1 : Hp} {Qd : Addr → Hp → Prop}
/-- over a list, kept where P, its values told by f -/
theorem lcl {α : Type} {K : PySem.W.Frag} {a : Addr} (l : List α) (c : α → V) (P : α → Bool) (f : α → V) (hl : SqL K H1 a (l.map c)) (hn : l.length ≤ 1000)
    (hs : ∀ (i : Nat) (y : α) (H : Hp), l[i]? = some y → Same H1 H → ∀ (Kt : VK) (Kf : Hp → Prop), (P y = true → ∀ H4, Same H H4 → Kt (f y) H4) → (P y = false → ∀ H4, Same H H4 → Kf H4) →
      g (c y) (wipe σ vs) H fun σ2 H2 => wipe σ2 vs = wipe σ vs ∧ tt σ2 H2 fun b H3 => if b = true then te σ2 H3 Kt else Kf H3)
    (hd : ∀ D H, H1 D = none → Same H1 H → H D = some (.lst ((l.filter P).map f)) → Qd D H) :
    ∀ D, H1 D = none → ∃ W : Nat → Nat → Hp → Prop, (∃ m, W 0 m (upd H1 D (.lst []))) ∧ ∀ i m H, W i m H →
      ((Itl K a).stop i H ∧ Qd D H) ∨ ((Itl K a).go i H ∧ ∃ Nx : Hp → Prop, (∀ H', Nx H' → ∃ m', m' < m ∧ W (i + 1) m' H') ∧ ∀ x H', (Itl K a).yld i H x H' → g x (wipe σ vs) H' fun σ2 H2 => wipe σ2 vs = wipe σ vs ∧ tt σ2 H2 fun b H3 =>
        if b = true then te σ2 H3 fun y H4 => ∃ acc, H4 D = some (.lst acc) ∧ acc.length < sizeLine ∧ Nx (upd H4 D (.lst (acc ++ [y]))) else Nx H3) := by
  cases l with
  | nil =>
    refine lcv (w := walk_list (K := K) (a := a) (xs := ([] : List α).map c)) (by simp) (fun _ => true) (fun _ => .non) (fun H s => s.seq hl) (fun i H x H' _ y => by rw [y.1]; exact .refl _) (fun i x H H' hi => absurd hi (by simp)) hd
  | cons x0 r =>
    refine lcv (w := walk_list (K := K) (a := a) (xs := (x0 :: r).map c)) (by rw [List.length_map]; exact hn) (fun i => P ((x0 :: r).getD i x0)) (fun i => f ((x0 :: r).getD i x0)) (fun H s => s.seq hl) (fun i H x H' _ y => by rw [y.1]; exact .refl _) ?_ ?_
    · rintro i x H H' hi s1 ⟨rfl, hx⟩ Kt Kf kt kf
      obtain ⟨y, hy, rfl⟩ := map_at hx
      have e : (x0 :: r).getD i x0 = y := by rw [List.getD_eq_getElem?_getD, hy]; rfl
      rw [e] at kt kf
      exact hs i y H' hy s1 Kt Kf kt kf
    · intro D H hD s1 h
      refine hd D H hD s1 ?_
      rw [h, List.length_map, l_filter]
end
theorem inV_str (z : Str) : ∀ l : List Str, inV (.str z) (l.map V.str) = decide (z ∈ l)
  | [] => by simp [inV]
  | x :: r => by
    have ih := inV_str z r
    unfold inV at ih ⊢
    rw [List.map_cons, List.any_cons, ih]
    show (x == z || decide (z ∈ r)) = _
    by_cases e : x = z
    · subst e; simp
    · have e2 : ¬ z = x := fun q => e q.symm
      simp [e, e2]
theorem flat_strs (l : List Str) : (l.map V.str).all flatV = true := by
  rw [List.all_eq_true]
  intro x hx
  obtain ⟨y, _, rfl⟩ := List.mem_map.mp hx
  rfl
theorem iteNF' {d : Bool} {A B : Prop} (h : d = true) (x : B) : if (!d) = true then A else B := iteN h x
/-! ### built-ins by name -/
theorem bt_list : bootBuiltins "list" = some (.type "list") := by decide +kernel
theorem bt_tuple : bootBuiltins "tuple" = some (.type "tuple") := by decide +kernel
theorem bt_int : bootBuiltins "int" = some (.type "int") := by decide +kernel
theorem bt_bool : bootBuiltins "bool" = some (.type "bool") := by decide +kernel
theorem bt_str : bootBuiltins "str" = some (.type "str") := by decide +kernel
theorem bt_dict : bootBuiltins "dict" = some (.type "dict") := by decide +kernel
theorem bt_len : bootBuiltins "len" = some (.builtin "len") := by decide +kernel
theorem bt_isinstance : bootBuiltins "isinstance" = some (.builtin "isinstance") := by decide +kernel
theorem bt_all : bootBuiltins "all" = some (.builtin "all") := by decide +kernel
theorem bt_any : bootBuiltins "any" = some (.builtin "any") := by decide +kernel
theorem bt_sorted : bootBuiltins "sorted" = some (.builtin "sorted") := by decide +kernel
theorem bt_min : bootBuiltins "min" = some (.builtin "min") := by decide +kernel
theorem bt_max : bootBuiltins "max" = some (.builtin "max") := by decide +kernel
section
variable {X : Cx}
theorem pg_FOR_EVER {pos : Pos} (T : Tx X.K X.mg) (hg : Gl X "FOR_EVER") : PE X (.Name "FOR_EVER" pos) (tC (.int 10000000000)) := let ⟨t, h⟩ := T.fe; pe_glob hg h ⟨t, rfl⟩
theorem pg_SMALL {pos : Pos} (T : Tx X.K X.mg) (hg : Gl X "SMALL") : PE X (.Name "SMALL" pos) (tC (.str "abcdefghijklmnopqrstuvwxyz")) := let ⟨t, h⟩ := T.sm; pe_glob hg h ⟨t, rfl⟩
theorem pg_FIGURES {pos : Pos} (T : Tx X.K X.mg) (hg : Gl X "FIGURES") : PE X (.Name "FIGURES" pos) (tC (.str "0123456789")) := let ⟨t, h⟩ := T.fi; pe_glob hg h ⟨t, rfl⟩
theorem ps_nox {st : Stmt} {t : TS} (h : PS X.nox st t) : PS X st t := ⟨fun pins s σ H D I hw =>
  wpAny_mono (h.run pins s σ H D (I.wish _) hw) (fun _ _ q => q.unwish) fun _ _ z => False.elim z⟩
end
/-! ### isinstance's answers -/
theorem kitLT {K : PySem.W.Frag} {n : String} {b : Bool} (h : (do let r1 ← kitB n "list"; let r2 ← kitB n "tuple"; pure (r1 || r2)) = some b) : PySem.W.kitAny K (.type n) [.type "list", .type "tuple"] = some b := by
  cases e1 : kitB n "list" with
  | none => rw [e1] at h; cases h
  | some r1 =>
    cases e2 : kitB n "tuple" with
    | none => rw [e1, e2] at h; cases h
    | some r2 =>
      rw [e1, e2] at h
      have h' : (r1 || r2) = b := Option.some.inj h
      refine kitAny_cons (b := r1) (kit_ty e1) (fun z => ?_) (fun z => by rw [← h', z]; rfl)
      refine kitAny_cons (b := r2) (kit_ty e2) (fun z2 => ?_) (fun z2 => by rw [← h', z2]; simp)
      rw [← h', z, z2]
      rfl
/-- the kinds of things that are asked -/
inductive Odd (H : Hp) : V → String → Prop
  | non : Odd H .non "NoneType"
  | bl (b : Bool) : Odd H (.bl b) "bool"
  | int (i : Int) : Odd H (.int i) "int"
  | str (z : Str) : Odd H (.str z) "str"
  | lst {a : Addr} {xs : List V} (h : H a = some (.lst xs)) : Odd H (.ref a) "list"
  | tup {a : Addr} {xs : List V} (h : H a = some (.tup xs)) : Odd H (.ref a) "tuple"
  | dK {a : Addr} {xs : List (Key × V)} (h : H a = some (.dK xs)) : Odd H (.ref a) "dict"
theorem Odd.ty {K : PySem.W.Frag} {H : Hp} {v : V} {n : String} (o : Odd H v n) : TyX K H v (.type n) := by
  cases o with
  | non => exact .base .non
  | bl b => exact .base (.bl b)
  | int i => exact .base (.int i)
  | str z => exact .base (.str z)
  | lst h => exact .base (.lst h)
  | tup h => exact .base (.tup h)
  | dK h => exact .base (.dK h)
theorem Odd.mono {H H' : Hp} {v : V} {n : String} (s : Same H H') (o : Odd H v n) : Odd H' v n := by
  cases o with
  | non => exact .non
  | bl b => exact .bl b
  | int i => exact .int i
  | str z => exact .str z
  | lst h => exact .lst (s _ _ h)
  | tup h => exact .tup (s _ _ h)
  | dK h => exact .dK (s _ _ h)
/-- isinstance(v, T) for one built-in T -/
def isB (n t : String) : Bool := (kitB n t).getD false
theorem Odd.kit {K : PySem.W.Frag} {H : Hp} {v : V} {n : String} (o : Odd H v n) (t : String) (ht : t = "int" ∨ t = "bool" ∨ t = "str" ∨ t = "list" ∨ t = "tuple" ∨ t = "dict") : PySem.W.kitOne K (.type n) (.type t) = some (isB n t) := by
  refine kit_ty ?_
  unfold isB
  cases o <;> rcases ht with rfl | rfl | rfl | rfl | rfl | rfl <;> decide +kernel
/-! ### rules with the written part told (within blocks in blocks) -/
section
variable {X : Cx} (K : PySem.W.Frag)
theorem pi_listk {tg l : Expr} {tl : TE} (hl : PE X l tl) (h : X.K = K := by rfl) : PI X tg l (iList K tl) := by subst h; exact pi_list hl
theorem pe_fldk {e : Expr} {f : Str} {ta : TE} {pos : Pos} (he : PE X e ta) (hb : attributeBase e f X.env (eval e X.env) = eval e X.env) (h : X.K = K := by rfl) : PE X (.Attribute e f pos) (tFld K ta f) := by subst h; exact pe_fld he hb
theorem call_list_ofk (h : X.K = K := by rfl) : CallR X (.type "list") (fun xs H Q => ∃ p ys, xs = [.ref p] ∧ (SqL K H p ys ∨ SqT K H p ys) ∧ ∀ l, H l = none → Q (.ref l) (upd H l (.lst ys))) := by subst h; exact call_list_of
theorem call_tuple_ofk (h : X.K = K := by rfl) : CallR X (.type "tuple") (fun xs H Q => ∃ p ys, xs = [.ref p] ∧ ((SqL K H p ys ∧ ∀ l, H l = none → Q (.ref l) (upd H l (.tup ys))) ∨ (SqT K H p ys ∧ Q (.ref p) H))) := by subst h; exact call_tuple_of
theorem call_len_seqk (h : X.K = K := by rfl) : CallR X (.builtin "len") (fun xs H Q => ∃ p ys, xs = [.ref p] ∧ (SqL K H p ys ∨ SqT K H p ys) ∧ Q (.int ys.length) H) := by subst h; exact call_len_seq
theorem cr_sortedSk (h : X.K = K := by rfl) : CallR X (.builtin "sorted") (rSortedS K) := by subst h; exact cr_sortedS
theorem cr_anyk (hc : X.calm = true) (h : X.K = K := by rfl) : CallR X (.builtin "any") (rAny K) := by subst h; exact cr_any hc
theorem cr_allk (hc : X.calm = true) (h : X.K = K := by rfl) : CallR X (.builtin "all") (rAll K) := by subst h; exact cr_all hc
theorem cr_maxk (hc : X.calm = true) (h : X.K = K := by rfl) : CallR X (.builtin "max") (rMax K) := by subst h; exact cr_max hc
theorem op_in_seqk (h : X.K = K := by rfl) : OpR X (compareOp .In) (rIn K false) := by subst h; exact op_in_seq
theorem op_notIn_seqk (h : X.K = K := by rfl) : OpR X (compareOp .NotIn) (rIn K true) := by subst h; exact op_notIn_seq
theorem ix_listk (h : X.K = K := by rfl) : IxR X (rIxL K) := by subst h; exact ix_list
theorem ix_tupk (h : X.K = K := by rfl) : IxR X (rIxT K) := by subst h; exact ix_tup
theorem sl_listk (h : X.K = K := by rfl) : SlR X (rSlL K) := by subst h; exact sl_list
theorem call_isik (h : X.K = K := by rfl) : CallR X (.builtin "isinstance") (rIsi K) := by subst h; exact call_isi
theorem call_isiTk (h : X.K = K := by rfl) : CallR X (.builtin "isinstance") (rIsiT K) := by subst h; exact call_isiT
theorem call_dictPk (hcalm : X.calm = true) (h : X.K = K := by rfl) : CallR X (.type "dict") (fun xs H Q => ∃ (a : Addr) (ps : List Addr) (kvs : List (Key × V)), xs = [.ref a] ∧ SqL K H a (ps.map V.ref) ∧ Paired (fun p kv => SqT K H p [kV kv.1, kv.2]) ps kvs ∧ ∀ p, H p = none → Q (.ref p) (upd H p (.dK (mergeK [] kvs)))) := by subst h; exact call_dictP hcalm
theorem op_eqDk (hu : X.A.units + 64 < cLine) (h : X.K = K := by rfl) : OpR X (compareOp .Eq) (rEqD K) := by subst h; exact op_eqD hu
theorem op_neDk (hu : X.A.units + 64 < cLine) (h : X.K = K := by rfl) : OpR X (compareOp .NotEq) (rNeD K) := by subst h; exact op_neD hu
theorem op_inDk (hu : X.A.units + 65 < cLine) (h : X.K = K := by rfl) : OpR X (compareOp .In) (rInD K) := by subst h; exact op_inD hu
theorem op_notInDk (hu : X.A.units + 65 < cLine) (h : X.K = K := by rfl) : OpR X (compareOp .NotIn) (rNotInD K) := by subst h; exact op_notInD hu
theorem pg_tupk {es : List Expr} {k : Nat} {t : TGs} {n : Nat} {pos : Pos} (hc : X.calm = true) (h : PGs X es t) (hK : X.K = K := by rfl)
    (hn : (assignEach es X.env).length = n := by rfl) (hst : (assignEach es X.env).findIdx? (·.1) = none := by rfl) : PG X (.Tuple es k pos) (gTup K n t) := by subst hK; exact pg_tup hc h hn hst
theorem pi_enumk {e : Expr} {ta : TA} {p pos tpos : Pos} {elts : List Expr} {kk : Nat} (hg : Gl X "enumerate") (hm : X.mg "enumerate" = none) (ha : PA X [e] ta) (h : X.K = K := by rfl) (hs : starEach [e] X.env = [(false, eval e X.env)] := by rfl) :
    PI X (.Tuple elts kk tpos) (.Call (.Name "enumerate" p) [e] [] pos) (iEnum K ta) := by subst h; exact pi_enum hg hm ha hs
theorem pi_zipAk {e e2 : Expr} {ta : TA} {p pos tpos : Pos} {elts : List Expr} {kk : Nat} (hg : Gl X "zip") (hm : X.mg "zip" = none) (ha : PA X [e, e2] ta) (h : X.K = K := by rfl)
    (hs : starEach [e, e2] X.env = (false, eval e X.env) :: starEach [e2] X.env := by rfl) (hpl : (backTo pos (starEach [e2] X.env)).any (·.1) = false := by rfl) :
    PI X (.Tuple elts kk tpos) (.Call (.Name "zip" p) [e, e2] [] pos) (RZ.iZipA K ta) := by subst h; exact RZ.pi_zipA hg hm ha hs hpl
theorem pe_bmk {o e : Expr} {es : List Expr} {to : TE} {t : TA} {name : Str} {apos cpos : Pos} {T id : String} {r : V → List V → Hp → VK → Prop} (pa : PlainAttrs T) (slot : Slot T name id) (hty : typeOf (.builtin id) = pure (.type "method_descriptor")) (hm : MtR X id r) (ho : PE X o to) (ha : PA X (e :: es) t) (h : X.K = K := by rfl)
    (hbase : attributeBase o name X.env (eval o X.env) = eval o X.env := by rfl)
    (hfew : ((backTo cpos (starEach (e :: es) X.env)).all (fun x => !x.1) && (backToKw cpos (keywordEach [] X.env)).all (fun x => x.1.isSome)
      && decide ((e :: es).length + ([] : List Keyword).length + (if ([] : List Keyword).isEmpty then 0 else 1) < 30)) = true := by rfl)
    (hline : (apos.endLine == cpos.line) = true := by rfl) (hs : starEach (e :: es) X.env = (false, eval e X.env) :: starEach es X.env := by rfl) (hplain : (backTo cpos (starEach es X.env)).any (·.1) = false := by rfl) :
    PE X (.Call (.Attribute o name apos) (e :: es) [] cpos) (tBM K T r to t) := by subst h; exact pe_bm pa slot hty hm ho ha hbase hfew hline hs hplain
theorem pe_bm0k {o : Expr} {to : TE} {name : Str} {apos cpos : Pos} {T id : String} {r : V → List V → Hp → VK → Prop} (pa : PlainAttrs T) (slot : Slot T name id) (hty : typeOf (.builtin id) = pure (.type "method_descriptor")) (hm : MtR X id r) (ho : PE X o to) (h : X.K = K := by rfl)
    (hbase : attributeBase o name X.env (eval o X.env) = eval o X.env := by rfl) (hline : (apos.endLine == cpos.line) = true := by rfl) : PE X (.Call (.Attribute o name apos) [] [] cpos) (tBM0 K T r to) := by subst h; exact pe_bm0 pa slot hty hm ho hbase hline
end
end K9

/-! ## K1 -/
set_option maxHeartbeats 1000000
namespace K9
open PySem PySem.Spec PyProof.Rows L2
section
variable {P : Program} {w : World} {K : PySem.W.Frag} {mg : Str → Option Value} {base : Heap}
/-! ### is_list, is_integer -/
theorem sc_is_list : FnScope ["thing"] ["thing"] (defScope s_is_list) := ⟨rfl, rfl, rfl, by decide +kernel, rfl, by decide +kernel, by decide +kernel⟩
def spIsList : Sp := fun vs H Q _ => ∃ v n, vs = [v] ∧ Odd H v n ∧ ∀ H', Same H H' → Q (.bl (isB n "list" || isB n "tuple")) H'
theorem ok_is_list (T : Tx K mg) : Ok P w K mg base CX0 1 "is_list" ["thing"] spIsList :=
  ok_of T d_is_list (by unfold fn; simp) rfl rfl rfl rfl rfl rfl (by decide +kernel) sc_is_list (fun _ _ _ _ _ _ us hl => match us, hl with | [_], _ => rfl) (fun vs H Q E ⟨_, _, h, _⟩ => by subst h; rfl) (fun f cdv A outer s H vs Q E hr h => by
  obtain ⟨v, n, rfl, o, k⟩ := h
  refine ⟨_, PSs.nox (pss_one (ps_ret (pe_callB (call_isiTk K) (by rfl) (T.Z "isinstance") bt_isinstance (pa_cons (pv 0) (pa_cons (pe_tup (pa_cons (pe_bltn (v := .ty "list") (by rfl) (T.Z "list") bt_list rfl) (pa_cons (pe_bltn (v := .ty "tuple") (by rfl) (T.Z "tuple") bt_tuple rfl) pa_nil))) pa_nil))))), ?_⟩
  refine ⟨_, rfl, by show 2 ≤ sizeLine; decide, fun p hp => ?_⟩
  have s1 := same_new (o := .tup [.ty "list", .ty "tuple"]) hp
  refine ⟨v, p, _, .type n, [.type "list", .type "tuple"], _, rfl, upd_same, .cons (.ty _) (.cons (.ty _) .nil), (o.mono s1).ty, kitLT (b := isB n "list" || isB n "tuple") ?_, k _ s1⟩
  unfold isB
  cases o <;> decide +kernel)
theorem sc_is_integer : FnScope ["thing"] ["thing"] (defScope s_is_integer) := ⟨rfl, rfl, rfl, by decide +kernel, rfl, by decide +kernel, by decide +kernel⟩
def spIsInt : Sp := fun vs H Q _ => ∃ v n, vs = [v] ∧ Odd H v n ∧ Q (.bl (isB n "int" && !isB n "bool")) H
theorem ok_is_integer (T : Tx K mg) : Ok P w K mg base CX0 1 "is_integer" ["thing"] spIsInt :=
  ok_of T d_is_integer (by unfold fn; simp) rfl rfl rfl rfl rfl rfl (by decide +kernel) sc_is_integer (fun _ _ _ _ _ _ us hl => match us, hl with | [_], _ => rfl) (fun vs H Q E ⟨_, _, h, _⟩ => by subst h; rfl) (fun f cdv A outer s H vs Q E hr h => by
  obtain ⟨v, n, rfl, o, k⟩ := h
  refine ⟨_, PSs.nox (pss_one (ps_ret (pe_and (pe_callB (call_isik K) (by rfl) (T.Z "isinstance") bt_isinstance (pa_cons (pv 0) (pa_cons (pe_bltn (v := .ty "int") (by rfl) (T.Z "int") bt_int rfl) pa_nil))) (pe_one (pe_not (pe_callB (call_isik K) (by rfl) (T.Z "isinstance") bt_isinstance (pa_cons (pv 0) (pa_cons (pe_bltn (v := .ty "bool") (by rfl) (T.Z "bool") bt_bool rfl) pa_nil)))))))), ?_⟩
  refine ⟨_, rfl, v, .ty "int", .type n, .type "int", _, rfl, .ty _, o.ty, o.kit "int" (by simp), _, rfl, ?_⟩
  cases e : isB n "int" with
  | false => rw [e] at k; exact iteF k
  | true =>
    rw [e] at k
    exact iteT ⟨_, rfl, v, .ty "bool", .type n, .type "bool", _, rfl, .ty _, o.ty, o.kit "bool" (by simp), _, rfl, k⟩)
/-! ### is_name -/
def smallL : List Nat := ("abcdefghijklmnopqrstuvwxyz" : Str).cps.toList
def figL : List Nat := ("0123456789" : Str).cps.toList
def nameS (z : Str) : Bool := decide (1 ≤ z.length) && (decide (z.length ≤ 8) && ((match z.cps.toList with
  | c :: _ => decide (c ∈ smallL)
  | [] => false) && z.cps.toList.all fun c => decide (c ∈ smallL) || decide (c ∈ figL)))
def nameB : V → Bool
  | .str z => nameS z
  | _ => false
theorem nameB_no {H : Hp} {v : V} {n : String} (o : Odd H v n) (h : isB n "str" = false) : nameB v = false := by
  cases o with
  | str z => exact absurd (show isB "str" "str" = true by decide +kernel) (by rw [h]; exact Bool.false_ne_true)
  | _ => rfl
theorem str_of {H : Hp} {v : V} {n : String} (o : Odd H v n) (h : isB n "str" = true) : ∃ z, v = .str z := by
  cases o with
  | str z => exact ⟨z, rfl⟩
  | non => exact absurd (show isB "NoneType" "str" = false by decide +kernel) (by rw [h]; exact fun z => by cases z)
  | bl b => exact absurd (show isB "bool" "str" = false by decide +kernel) (by rw [h]; exact fun z => by cases z)
  | int b => exact absurd (show isB "int" "str" = false by decide +kernel) (by rw [h]; exact fun z => by cases z)
  | lst b => exact absurd (show isB "list" "str" = false by decide +kernel) (by rw [h]; exact fun z => by cases z)
  | tup b => exact absurd (show isB "tuple" "str" = false by decide +kernel) (by rw [h]; exact fun z => by cases z)
  | dK b => exact absurd (show isB "dict" "str" = false by decide +kernel) (by rw [h]; exact fun z => by cases z)
theorem str_len (z : Str) : z.length = z.cps.toList.length := by
  show z.cps.size = z.cps.toList.length
  simp
theorem sc_is_name : FnScope ["thing", "sign"] ["thing"] (defScope s_is_name) := ⟨rfl, rfl, rfl, by decide +kernel, rfl, by decide +kernel, by decide +kernel⟩
def spIsName : Sp := fun vs H Q _ => ∃ v n, vs = [v] ∧ Odd H v n ∧ (∀ z, v = .str z → z.length ≤ 1000) ∧ ∀ H', Same H H' → Q (.bl (nameB v)) H'
theorem ok_is_name (T : Tx K mg) : Ok P w K mg base CX0 1 "is_name" ["thing"] spIsName :=
  ok_of T d_is_name (by unfold fn; simp) rfl rfl rfl rfl rfl rfl (by decide +kernel) sc_is_name (fun _ _ _ _ _ _ us hl => match us, hl with | [_], _ => rfl) (fun vs H Q E ⟨_, _, h, _⟩ => by subst h; rfl) (fun f cdv A outer s H vs Q E hr h => by
  obtain ⟨v, n, rfl, o, hz, k⟩ := h
  refine ⟨_, PSs.nox (pss_cons (ps_if (PW.pt (pw_or (pt_not (pt_val (pe_callB (call_isik K) (by rfl) (T.Z "isinstance") bt_isinstance (pa_cons (pv 0) (pa_cons (pe_bltn (v := .ty "str") (by rfl) (T.Z "str") bt_str rfl) pa_nil))))) (pw_or (pt_not (pt_chain op_le op_le pe_int (pe_callB call_len_str (by rfl) (T.Z "len") bt_len (pa_cons (pv 0) pa_nil)) pe_int)) (pw_or1 (pt_cmpR op_notIn_sign (pe_ix ix_str (pv 0) pe_int (fun _ _ => rfl)) (pg_SMALL T (by rfl)) (by rfl)))))) (pss_one (ps_ret pe_bl)) pss_nil)
    (pss_one (ps_ret (pe_callB (cr_allk K rfl) (by rfl) (T.Z "all") bt_all (pa_cons (pe_lc (own := [("sign", 1)])  rfl sc_is_name.nd (pi_str (pv 0)) (blkOk_by (by kernel_rfl)) (fun _ _ _ _ _ => (pg_name (i := 1) sc_is_name.nd rfl (by first | exact Or.inl rfl | exact Or.inr rfl))) (fun _ _ _ _ _ => pts_nil) (fun _ _ _ _ _ => (pe_or (pe_cmpR op_in_sign (pv 1) (pg_SMALL T (by rfl)) (by rfl)) (pe_one (pe_cmpR op_in_sign (pv 1) (pg_FIGURES T (by rfl)) (by rfl)))))) pa_nil))))), ?_⟩
  refine ⟨_, rfl, v, .ty "str", .type n, .type "str", _, rfl, .ty _, o.ty, o.kit "str" (by simp), _, rfl, ?_⟩
  cases e : isB n "str" with
  | false =>
    refine iteT (iteT ?_)
    rw [nameB_no o e] at k
    exact k H (.refl _)
  | true =>
    refine iteF ?_
    obtain ⟨z, rfl⟩ := str_of o e
    have hl := hz z rfl
    have no : ∀ {A B : Prop} (c : Bool), (c = true → nameS z = false) → (c = false → B) → (nameS z = false → A) → if c = true then A else B := fun {A B} c h1 h2 h3 => by
      cases c with
      | true => exact iteT (h3 (h1 rfl))
      | false => exact iteF (h2 rfl)
    have out : nameS z = false → ∀ {H'}, Same H H' → Q (.bl false) H' := fun e {H'} s => by
      have := k H' s
      rw [show nameB (.str z) = nameS z from rfl, e] at this
      exact this
    refine ⟨_, rfl, z, rfl, sz1000 hl, _, _, rfl, rfl, _, rfl, ?_⟩
    by_cases h1 : (1 : Int) ≤ (z.length : Int)
    · rw [decide_eq_true h1]
      refine iteT ⟨_, _, rfl, rfl, _, rfl, ?_⟩
      by_cases h2 : (z.length : Int) ≤ 8
      · rw [decide_eq_true h2]
        refine iteF ?_
        cases ez : z.cps.toList with
        | nil => exact absurd (str_len z) (by rw [ez]; simp; omega)
        | cons c r =>
          refine ⟨_, rfl, z, _, c, rfl, rfl, sz1000 hl, by rw [ez]; exact atI_nat (xs := c :: r) (j := 0) rfl, c, _, rfl, rfl, _, rfl, ?_⟩
          by_cases h3 : c ∈ smallL
          · refine iteN (decide_eq_true h3) ?_
            refine ⟨_, rfl, _, rfl, ?_⟩
            refine lcv (w := walk_str) (by show z.length ≤ 1000; exact hl) (fun _ => true) (fun i => .bl (decide (z.cps.toList.getD i 0 ∈ smallL) || decide (z.cps.toList.getD i 0 ∈ figL))) (fun _ _ => trivial) (fun i H x H' _ y => by rw [y.1]; exact .refl _) ?_ ?_
            · rintro i x H2 H3 hi s2 ⟨rfl, d, hd, rfl⟩ Kt Kf kt kf
              have ed : z.cps.toList.getD i 0 = d := by
                simp [List.getD, hd]
              have kt := kt rfl
              rw [ed] at kt
              refine ⟨rfl, tyes ?_⟩
              refine ⟨_, rfl, d, _, rfl, rfl, _, rfl, ?_⟩
              by_cases q : d ∈ smallL
              · rw [decide_eq_true q] at kt
                exact iteB (decide_eq_true q) (kt _ (.refl _))
              · rw [decide_eq_false q] at kt
                refine iteBF (decide_eq_false q) ⟨_, rfl, d, _, rfl, rfl, ?_⟩
                exact kt _ (.refl _)
            · intro D H2 hD s2 hD2
              refine ⟨D, (List.range z.cps.size).map (fun i => decide (z.cps.toList.getD i 0 ∈ smallL) || decide (z.cps.toList.getD i 0 ∈ figL)), rfl, SqL.of ?_, ?_⟩
              · rw [hD2, List.filter_eq_self.mpr (fun _ _ => rfl), List.map_map]
                rfl
              · have e2 : ((List.range z.cps.size).map (fun i => decide (z.cps.toList.getD i 0 ∈ smallL) || decide (z.cps.toList.getD i 0 ∈ figL))).all id = nameS z := by
                  unfold nameS
                  rw [decide_eq_true (show 1 ≤ z.length by omega), decide_eq_true (show z.length ≤ 8 by omega), ez]
                  show _ = (true && (true && (decide (c ∈ smallL) && _)))
                  rw [decide_eq_true h3, Bool.true_and, Bool.true_and, Bool.true_and, List.all_map]
                  have e3 : z.cps.size = (c :: r).length := by rw [← ez]; simp
                  rw [e3]
                  rw [Bool.eq_iff_iff, List.all_eq_true, List.all_eq_true]
                  constructor
                  · intro h x hx
                    obtain ⟨i, hi, e⟩ := List.mem_iff_getElem.mp hx
                    have := h i (List.mem_range.mpr hi)
                    have e5 : (c :: r).getD i 0 = x := by rw [List.getD_eq_getElem?_getD, List.getElem?_eq_getElem hi, e]; rfl
                    simp only [Function.comp, e5] at this
                    exact this
                  · intro h i hi
                    have hi' := List.mem_range.mp hi
                    have := h ((c :: r)[i]) (List.getElem_mem hi')
                    have e5 : (c :: r).getD i 0 = (c :: r)[i] := by rw [List.getD_eq_getElem?_getD, List.getElem?_eq_getElem hi']; rfl
                    simp only [Function.comp, e5]
                    exact this
                rw [e2]
                exact k _ s2
          · refine iteNF (decide_eq_false h3) (out ?_ (.refl _))
            unfold nameS
            rw [ez]
            simp [h3]
      · rw [decide_eq_false h2]
        refine iteT (iteT (out ?_ (.refl _)))
        unfold nameS
        rw [decide_eq_false (show ¬ z.length ≤ 8 by omega)]
        simp
    · rw [decide_eq_false h1]
      refine iteF ⟨_, rfl, iteT (iteT (out ?_ (.refl _)))⟩
      unfold nameS
      rw [decide_eq_false (show ¬ 1 ≤ z.length by omega)]
      simp)
end
end K9

/-! ## K2 -/
set_option maxHeartbeats 1000000
namespace K9
open PySem PySem.Spec PyProof.Rows L2
section
variable {P : Program} {w : World} {K : PySem.W.Frag} {mg : Str → Option Value} {base : Heap}
/-! ### is_hand_of -/
def handB (v : V) (hs : List Str) : Bool := match v with
  | .str z => nameS z && decide (z ∈ hs)
  | _ => false
theorem nameB_str {v : V} (h : nameB v = true) : ∃ z, v = .str z ∧ nameS z = true := by
  cases v with
  | str z => exact ⟨z, rfl, h⟩
  | _ => cases h
theorem handB_no {v : V} {hs : List Str} (h : nameB v = false) : handB v hs = false := by
  cases v with
  | str z => show (nameS z && _) = false; rw [show nameS z = false from h]; rfl
  | _ => rfl
theorem sc_is_hand_of : FnScope ["thing", "hands"] ["thing", "hands"] (defScope s_is_hand_of) := ⟨rfl, rfl, rfl, by decide +kernel, rfl, by decide +kernel, by decide +kernel⟩
def spHandOf : Sp := fun vs H Q _ => ∃ v n a hs, vs = [v, .ref a] ∧ Odd H v n ∧ (∀ z, v = .str z → z.length ≤ 1000) ∧ Strs H a hs ∧ ∀ H', Same H H' → Q (.bl (handB v hs)) H'
theorem ok_is_hand_of (T : Tx K mg) : Ok P w K mg base CX0 2 "is_hand_of" ["thing", "hands"] spHandOf :=
  ok_of T d_is_hand_of (by unfold fn; simp) rfl rfl rfl rfl rfl rfl (by decide +kernel) sc_is_hand_of (fun _ _ _ _ _ _ us hl => match us, hl with | [_, _], _ => rfl) (fun vs H Q E ⟨_, _, _, _, h, _⟩ => by subst h; rfl) (fun f cdv A outer s H vs Q E hr h => by
  obtain ⟨v, n, a, hs, rfl, o, hz, ha, k⟩ := h
  refine ⟨_, PSs.nox (pss_one (ps_ret (pe_and (pe_c (ok_is_name T) (hr.mono (by decide)) pass0 (pa_cons (pv 0) pa_nil)) (pe_one (pe_cmpR (op_in_seqk K) (pv 0) (pv 1) (by rfl)))))), ?_⟩
  refine ⟨_, rfl, v, n, rfl, o, hz, fun H1 s1 => ⟨_, rfl, ?_⟩⟩
  cases e : nameB v with
  | false =>
    have q := k H1 s1
    rw [handB_no e] at q
    exact iteF q
  | true =>
    obtain ⟨z, rfl, hzn⟩ := nameB_str e
    refine iteT ⟨_, rfl, _, rfl, a, _, rfl, .inl (SqL.of (s1 _ _ ha)), rfl, flat_strs hs, ?_⟩
    have q := k H1 s1
    rw [show handB (.str z) hs = (nameS z && decide (z ∈ hs)) from rfl, hzn, Bool.true_and] at q
    rw [inV_str]
    exact q)
/-! ### checked_hands -/
theorem sc_checked_hands : FnScope ["hands", "found", "index", "hand"] ["hands"] (defScope s_checked_hands) := ⟨rfl, rfl, rfl, by decide +kernel, rfl, by decide +kernel, by decide +kernel⟩
def spCheckedHands : Sp := fun vs H Q _ => ∃ a xs, vs = [.ref a] ∧ Strs H a xs ∧ (∀ x ∈ xs, nameS x = true ∧ x.length ≤ 1000) ∧ xs.Nodup ∧ 2 ≤ xs.length ∧ xs.length < 60 ∧
  ∀ p H', H p = none → Same H H' → Strs H' p (srt xs) → Q (.ref p) H'
theorem ok_checked_hands (T : Tx K mg) : Ok P w K mg base CX0 2 "checked_hands" ["hands"] spCheckedHands :=
  ok_of T d_checked_hands (by unfold fn; simp) rfl rfl rfl rfl rfl rfl (by decide +kernel) sc_checked_hands (fun _ _ _ _ _ _ us hl => match us, hl with | [_], _ => rfl) (fun vs H Q E ⟨_, _, h, _⟩ => by subst h; rfl) (fun f cdv A outer s H vs Q E hr h => by
  obtain ⟨a, xs, rfl, ha, hn, nd, h2, h60, k⟩ := h
  refine ⟨_, PSs.nox (pss_cons (ps_if (pt_not (pt_val (pe_c (ok_is_list T) (hr.mono (by decide)) pass0 (pa_cons (pv 0) pa_nil)))) (pss_one ps_never) pss_nil)
    (pss_cons (ps_set (i := 1) sc_checked_hands.nd rfl (by first | exact Or.inl rfl | exact Or.inr rfl) (pe_lst pa_nil))
    (pss_cons (ps_for PassesOwn.never rfl (pi_enumk K rfl (T.Z "enumerate") (pa_cons (pv 0) pa_nil)) (pg_tupk K rfl (pgs_cons (pg_name (i := 2) sc_checked_hands.nd rfl (by first | exact Or.inl rfl | exact Or.inr rfl)) (pgs_cons (pg_name (i := 3) sc_checked_hands.nd rfl (by first | exact Or.inl rfl | exact Or.inr rfl)) pgs_nil)))
      (pss_cons (ps_if (PW.pt (pw_or (pt_not (pt_val (pe_c (ok_is_name T) (hr.mono (by decide)) pass0 (pa_cons (pv 3) pa_nil)))) (pw_or1 (pt_cmpR (op_in_seqk K) (pv 3) (pv 1) (by rfl))))) (pss_one ps_never) pss_nil)
      (pss_one (ps_expr (pe_bmk K PySem.F.plainAttrs_list PySem.F.slot_list_append PySem.F.type_list_append mt_append (pv 1) (pa_cons (pv 3) pa_nil))))))
    (pss_cons (ps_if (pt_cmpR op_lt (pe_callB (call_len_seqk K) (by rfl) (T.Z "len") bt_len (pa_cons (pv 1) pa_nil)) pe_int (nomark _)) (pss_one ps_never) pss_nil)
    (pss_one (ps_ret (pe_callB (cr_sortedSk K) (by rfl) (T.Z "sorted") bt_sorted (pa_cons (pv 1) pa_nil)))))))), ?_⟩
  refine ⟨_, rfl, _, "list", rfl, .lst ha, fun H1 s1 => ⟨_, rfl, ?_⟩⟩
  refine iteNF' (show (isB "list" "list" || isB "list" "tuple") = true by decide +kernel) ?_
  refine ⟨Nat.zero_le _, fun l nl => ?_⟩
  have s2 : Same H (upd H1 l (.lst [])) := s1.trans (same_new nl)
  have hl0 : H l = none := s1.free nl
  refine ⟨_, rfl, a, _, rfl, SqL.of (s2 _ _ ha), for_it walk_enum (fun i σ H2 => ∃ v2 v3, σ = [some (.ref a), some (.ref l), v2, v3] ∧ Same H H2 ∧ H2 l = some (.lst ((xs.take i).map V.str))) ⟨none, none, rfl, s2, upd_same⟩
    (fun i σ H2 _ ⟨_, _, _, s, _⟩ => SqL.of (s _ _ ha)) ?_ ?_⟩
  · rintro i x σ H2 H3 hi ⟨v2, v3, rfl, s3, hl⟩ ⟨Tt, x1, x2, rfl, nT, rfl, e1, e2⟩
    obtain ⟨y, hy, rfl⟩ := map_at e2
    obtain rfl : V.int (i : Nat) = x1 := Option.some.inj e1
    have sT := same_new (o := .tup [.int (i : Nat), .str y]) nT
    refine ⟨Tt, _, rfl, SqT.of upd_same, rfl, _, _, rfl, _, _, rfl, rfl, ?_⟩
    have hym := at_mem hy
    refine ⟨_, rfl, _, _, rfl, .str y, (fun z e => by cases e; exact (hn _ hym).2), fun H4 s4 => ⟨_, rfl, ?_⟩⟩
    have sA := s3.trans (sT.trans s4)
    refine iteNF' (show nameB (.str y) = true from (hn _ hym).1) ?_
    refine ⟨_, rfl, _, rfl, l, _, rfl, .inl (SqL.of (s4 _ _ (sT _ _ hl))), rfl, flat_strs _, _, rfl, ?_⟩
    have nin : y ∉ xs.take i := fun z => by
      obtain ⟨j, hj, e⟩ := List.mem_iff_getElem.mp z
      rw [List.length_take] at hj
      have e' : xs[j]? = some y := by
        rw [List.getElem_take] at e
        rw [← e]
        exact List.getElem?_eq_getElem _
      have := nd_ix nd e' hy
      omega
    rw [inV_str, show (if false = true then _ else decide (y ∈ xs.take i)) = false from decide_eq_false nin]
    refine iteF ?_
    refine ⟨_, rfl, .inl ⟨rfl, _, SqL.of (s4 _ _ (sT _ _ hl))⟩, _, rfl, l, _, _, rfl, rfl, s4 _ _ (sT _ _ hl), ?_, ?_⟩
    · rw [List.length_map, List.length_take]
      exact small1000 (by omega)
    · refine ⟨_, _, rfl, same_mut sA hl0, ?_⟩
      rw [upd_same, take_more hy, List.map_append]
      rfl
  · rintro σ H2 ⟨v2, v3, rfl, s3, hl⟩
    rw [List.length_map, List.take_length] at hl
    refine ⟨_, rfl, l, _, rfl, .inl (SqL.of hl), _, _, rfl, rfl, _, rfl, ?_⟩
    rw [List.length_map, decide_eq_false (show ¬ ((xs.length : Nat) : Int) < 2 by omega)]
    refine iteF ?_
    refine ⟨_, rfl, l, xs, rfl, SqL.of hl, by omega, fun ys p hp hs np => ?_⟩
    refine k p _ (s3.free np) (s3.trans (same_new np)) ?_
    rw [srt_is hp hs]
    exact upd_same)
end
end K9

/-! ## KDc -/
set_option maxHeartbeats 1000000
namespace K9
open PySem PySem.Spec PyProof.Rows L2
def kvf (l : List Str) (f : Str → V) : List (Key × V) := l.map fun k => ((Sum.inr k : Key), f k)
theorem kvf_none {f : Str → V} {ks : List Str} {k : Str} (h : k ∉ ks) : valV (kvf ks f) (Sum.inr k : Key) = none := by
  unfold valV kvf
  rw [List.find?_eq_none.mpr]
  · rfl
  · intro x hx
    obtain ⟨y, hy, rfl⟩ := List.mem_map.mp hx
    have ne : ¬ ((Sum.inr y : Key) = Sum.inr k) := fun q => h (Sum.inr.inj q ▸ hy)
    simpa using ne
theorem kvf_put {f : Str → V} {ks : List Str} {k : Str} {v : V} (h : k ∉ ks) : putK (kvf ks f) (Sum.inr k : Key) v = kvf (ks ++ [k]) (fun x => if x = k then v else f x) := by
  rw [putK_new _ (kvf_none h)]
  unfold kvf
  rw [List.map_append]
  show _ = _ ++ [((Sum.inr k : Key), if k = k then v else f k)]
  rw [if_pos rfl]
  refine congrArg (· ++ _) (List.map_congr_left fun x hx => ?_)
  show _ = ((Sum.inr x : Key), if x = k then v else f x)
  rw [if_neg (show ¬ x = k from fun e => h (e ▸ hx))]
theorem kvf_mkv {ks : List Str} {f : Str → V} {ad : Str → Addr} (h : ∀ k ∈ ks, f k = .ref (ad k)) : kvf ks f = mkv ks ad := List.map_congr_left fun k hk => by rw [h k hk]
section
variable {K : PySem.W.Frag} {a : Addr} {g : TG} {tt : TT} {tk tv : TE} {vs : List Nat} {σ : L2.St} {H1 : Hp} {Qd : Addr → Hp → Prop}
/-- a dict comprehension over a list of unlike texts -/
theorem dcg (S : List Addr) (l : List Str) (nd : l.Nodup) (hn : l.length ≤ 1000) (R : Str → V → Hp → Prop) (hR : ∀ k v H H', Same H H' → R k v H → R k v H') (hl : SqL K H1 a (l.map V.str))
    (hs : ∀ (k : Str) (D : Addr) (H : Hp), k ∈ l → Same H1 H → (∃ o, H D = some o) → ∀ (Kt : V → V → Hp → Prop) (Kf : Hp → Prop), (∀ v H5, Same H H5 → R k v (hid (D :: S) H5) → Kt (.str k) v H5) →
      g (.str k) (wipe σ vs) H fun σ2 H2 => wipe σ2 vs = wipe σ vs ∧ tt σ2 H2 fun b H3 => if b = true then tk σ2 H3 fun y H4 => tv σ2 H4 fun z H5 => Kt y z H5 else Kf H3)
    (hd : ∀ D H f, H1 D = none → Same H1 H → H D = some (.dK (kvf l f)) → (∀ k ∈ l, R k (f k) (hid (D :: S) H)) → Qd D H) :
    ∀ D, H1 D = none → ∃ W : Nat → Nat → Hp → Prop, (∃ m, W 0 m (upd H1 D (.dK []))) ∧ ∀ i m H, W i m H →
      ((Itl K a).stop i H ∧ Qd D H) ∨ ((Itl K a).go i H ∧ ∃ Nx : Hp → Prop, (∀ H', Nx H' → ∃ m', m' < m ∧ W (i + 1) m' H') ∧ ∀ x H', (Itl K a).yld i H x H' → g x (wipe σ vs) H' fun σ2 H2 => wipe σ2 vs = wipe σ vs ∧ tt σ2 H2 fun b H3 =>
        if b = true then tk σ2 H3 fun y H4 => tv σ2 H4 fun z H5 => ∃ kvs k, y = kV k ∧ H5 D = some (.dK kvs) ∧ kvs.length < sizeLine ∧ Nx (upd H5 D (.dK (putK kvs k z))) else Nx H3) := by
  intro D hD
  refine ⟨fun i m H => m = l.length - i ∧ i ≤ l.length ∧ Same H1 H ∧ ∃ f, H D = some (.dK (kvf (l.take i) f)) ∧ ∀ k ∈ l.take i, R k (f k) (hid (D :: S) H), ⟨l.length, by simp, Nat.zero_le _, same_new hD, fun _ => .non, upd_same, fun k hk => by simp at hk⟩, ?_⟩
  rintro i m H ⟨rfl, hi, s1, f, hDf, hf⟩
  have q : SqL K H a (l.map V.str) := s1.seq hl
  by_cases hlt : i < l.length
  · refine .inr ⟨⟨_, .str l[i], q, by simp [hlt]⟩, fun H' => Same H1 H' ∧ ∃ f, H' D = some (.dK (kvf (l.take (i + 1)) f)) ∧ ∀ k ∈ l.take (i + 1), R k (f k) (hid (D :: S) H'), fun H' ⟨p1, p2⟩ => ⟨l.length - (i + 1), by omega, rfl, hlt, p1, p2⟩, fun x H' y => ?_⟩
    obtain ⟨rfl, y⟩ := y
    have hx : l[i]? = some l[i] := List.getElem?_eq_getElem hlt
    have ex : x = .str l[i] := by
      have e := y _ q
      rw [map_get hx] at e
      exact (Option.some.inj e).symm
    subst ex
    have nin : l[i] ∉ l.take i := fun z => by
      obtain ⟨j, hj, e⟩ := List.mem_iff_getElem.mp z
      rw [List.length_take] at hj
      rw [List.getElem_take] at e
      have := nd_ix nd (show l[j]? = some l[i] by rw [← e]; exact List.getElem?_eq_getElem _) hx
      omega
    refine hs l[i] D H' (List.getElem_mem hlt) s1 ⟨_, hDf⟩ _ _ fun z H5 s5 r5 => ?_
    refine ⟨_, Sum.inr l[i], rfl, s5 _ _ hDf, ?_, same_mut (s1.trans s5) hD, fun x => if x = l[i] then z else f x, ?_, fun k hk => ?_⟩
    · unfold kvf
      rw [List.length_map, List.length_take]
      exact small1000 (by omega)
    · rw [upd_same, kvf_put nin, take_more hx]
    · rw [hid_in (List.mem_cons_self)]
      rw [take_more hx] at hk
      by_cases e : k = l[i]
      · subst e
        show R l[i] (if l[i] = l[i] then z else f l[i]) _
        rw [if_pos rfl]
        exact r5
      · show R k (if k = l[i] then z else f k) _
        rw [if_neg e]
        rcases List.mem_append.mp hk with hk | hk
        · exact hR _ _ _ _ (same_hid s5) (hf k hk)
        · exact absurd (List.mem_singleton.mp hk) e
  · have e : i = l.length := by omega
    subst e
    rw [List.take_length] at hDf hf
    exact .inl ⟨⟨_, q, by rw [List.length_map]; exact Nat.le_refl _⟩, hd D H f hD s1 hDf hf⟩
/-- the values new lists: a map -/
theorem mapA_of {S : List Addr} {D : Addr} {hs : List Str} {H : Hp} {fv : Str → V} {m : Mp} (hD : H D = some (.dK (kvf hs fv))) (nS : D ∉ S) (hf : ∀ k ∈ hs, ∃ b, fv k = .ref b ∧ Strs (hid (D :: S) H) b (m k)) : MapA (hid S H) hs D m := by
  have hex : ∀ k, ∃ b, k ∈ hs → fv k = .ref b ∧ Strs (hid (D :: S) H) b (m k) := fun k => by
    by_cases hk : k ∈ hs
    · obtain ⟨b, e1, e2⟩ := hf k hk
      exact ⟨b, fun _ => ⟨e1, e2⟩⟩
    · exact ⟨0, fun z => absurd z hk⟩
  refine ⟨fun k => Classical.choose (hex k), ?_, fun k hk => ?_⟩
  · rw [← kvf_mkv (f := fv) fun k hk => ((Classical.choose_spec (hex k)) hk).1]
    exact hid_of nS hD
  · exact hid_sub (fun a ha => List.mem_cons_of_mem _ ha) _ _ ((Classical.choose_spec (hex k)) hk).2
theorem hid_nil {H : Hp} : Same (hid [] H) H := hid_le
end
end K9

/-! ## K3 -/
set_option maxHeartbeats 1000000
namespace K9
open PySem PySem.Spec PyProof.Rows L2
/-! ### a world: its fields, what it holds -/
theorem kn : ¬ (("own_hands" : Str) = "own_maps") := by decide +kernel
def flds (lh lm : Addr) : List (Str × V) := putF "own_maps" (.ref lm) (putF "own_hands" (.ref lh) [])
theorem flds_h (lh lm : Addr) : (flds lh lm).lookup ("own_hands" : Str) = some (.ref lh) := by
  unfold flds
  rw [lookup_putF, if_neg kn, lookup_putF, if_pos rfl]
theorem flds_m (lh lm : Addr) : (flds lh lm).lookup ("own_maps" : Str) = some (.ref lm) := by
  unfold flds
  rw [lookup_putF, if_pos rfl]
theorem flds_no (lh lm : Addr) {m : Str} (h1 : ¬ m = "own_maps") (h2 : ¬ m = "own_hands") : (flds lh lm).lookup m = none := by
  unfold flds
  rw [lookup_putF, if_neg h1, lookup_putF, if_neg h2]
  rfl
def WorldAt (C : Addr) (H : Hp) (x : Addr) (hs : List Str) (ms : List Mp) : Prop := ∃ dx lh lm, H x = some (.ins C dx (flds lh lm)) ∧ Strs H lh hs ∧ MapsA H hs lm ms
theorem WorldAt.mono {C : Addr} {H H' : Hp} {x : Addr} {hs : List Str} {ms : List Mp} (s : Same H H') (h : WorldAt C H x hs ms) : WorldAt C H' x hs ms :=
  let ⟨dx, lh, lm, h1, h2, h3⟩ := h
  ⟨dx, lh, lm, s _ _ h1, s _ _ h2, h3.mono s⟩
/-- a method's def -/
def OkM (P : Program) (w : World) (K : PySem.W.Frag) (mg : Str → Option Value) (base : Heap) (CX : CXT) (k : Nat) (f : Addr) (ps : List Str) (sp : Sp) : Prop := ∃ fd, Binds K fd ps [] ∧ FnOk P w K mg base CX k f fd ps sp
section
variable {P : Program} {w : World} {K : PySem.W.Frag} {mg : Str → Option Value} {base : Heap} {CX : CXT} {k : Nat}
theorem okm_of {C x : Str} {ps N : List Str} {sp : Sp} {st : Stmt} {q : Str} (T : Tx K mg) (d : He.DefD) (hd : d ∈ fn) (e1 : d.at_ = (C, some x)) (e2 : d.name = x) (e3 : d.qual = q) (e4 : d.params = defArgs st) (e5 : d.body = defBody st) (e6 : d.scope = defScope st) (S : FnScope N ps (defScope st))
    (hb : ∀ (kV doc pm : Value) (an : Option Addr) (cdv ct : Value) (us : List Value), us.length = ps.length → bindArgs (PySem.W.fnOf x q (defArgs st) (defBody st) (defScope st) .none kV doc pm an cdv ct) ⟨us, []⟩ = pure (ps.zip us))
    (len : ∀ vs H Q E, sp vs H Q E → vs.length = ps.length)
    (hbody : ∀ (f : Addr) (cdv : Value) (A : Around) (outer : List Env) (s : Shared) (H : Hp) (vs : List V) (Q : VK) (E : XK), Room k (A.deeper (envOfC q (defScope st) s.heap.objs.size f cdv)) → sp vs H Q E →
      ∃ t, PSs (cxOf CX P w K mg base N q (defScope st) f cdv A outer s H E) (defBody st) t ∧ t { nx := fun _ H' => Q .non H', rt := Q } (start N vs) H) : OkM P w K mg base CX (k + 1) (He.ma K (He.ga K C) x) ps sp := by
  obtain ⟨fd, F⟩ := T.f d hd
  rw [e2, e3, e4, e5, e6, e1] at F
  have F' : FunD K x q (defArgs st) (defBody st) (defScope st) [] [] (He.ma K (He.ga K C) x) fd := F
  exact ⟨fd, F'.bindsN hb, F'.ok S len fun cdv A outer s H vs Q E hr h => hbody _ cdv A outer s H vs Q E hr h⟩
/-! ### Maps.hands, Maps.maps -/
theorem sc_Maps_hands : FnScope ["self"] ["self"] (defScope s_Maps_hands) := ⟨rfl, rfl, rfl, by decide +kernel, rfl, by decide +kernel, by decide +kernel⟩
def spHands (C : Addr) : Sp := fun vs H Q _ => ∃ x hs ms, vs = [.ref x] ∧ WorldAt C H x hs ms ∧ ∀ p H', H p = none → Same H H' → Strs H' p hs → Q (.ref p) H'
theorem ok_hands (T : Tx K mg) : OkM P w K mg base CX0 1 (He.ma K (He.ga K "Maps") "hands") ["self"] (spHands (He.ga K "Maps")) :=
  okm_of T d_Maps_hands (by unfold fn; simp) rfl rfl rfl rfl rfl rfl sc_Maps_hands (fun _ _ _ _ _ _ us hl => match us, hl with | [_], _ => rfl) (fun vs H Q E ⟨_, _, _, h, _⟩ => by subst h; rfl) (fun f cdv A outer s H vs Q E hr h => by
  obtain ⟨x, hs, ms, rfl, ⟨dx, lh, lm, h1, h2, h3⟩, k⟩ := h
  refine ⟨_, PSs.nox (pss_one (ps_ret (pe_callTy (call_list_ofk K) (by rfl) (T.Z "list") bt_list (pa_cons (pe_fldk K (pv 0) rfl) pa_nil)))), ?_⟩
  refine ⟨_, rfl, x, _, dx, _, _, rfl, h1, T.cM, T.nH, flds_h _ _, lh, _, rfl, .inl (SqL.of h2), fun p np => ?_⟩
  exact k p _ np (same_new np) upd_same)
theorem sc_Maps_maps : FnScope ["self", "one", "hand"] ["self"] (defScope s_Maps_maps) := ⟨rfl, rfl, rfl, by decide +kernel, rfl, by decide +kernel, by decide +kernel⟩
def spMaps (C : Addr) : Sp := fun vs H Q _ => ∃ x hs ms, vs = [.ref x] ∧ WorldAt C H x hs ms ∧ hs.Nodup ∧ hs.length ≤ 100 ∧ ms.length ≤ 100 ∧ ∀ p H', H p = none → Same H H' → MapsA H' hs p ms → Q (.ref p) H'
theorem paired_range {F : Nat → V → Prop} {G : Addr → Mp → Prop} (ms : List Mp) (h : ∀ i y m, ms[i]? = some m → F i y → ∃ d, y = .ref d ∧ G d m) : ∀ {n : Nat} {ys : List V}, n ≤ ms.length → Paired F (List.range' (ms.length - n) n) ys → ∃ ds : List Addr, ys = ds.map V.ref ∧ Paired G ds (ms.drop (ms.length - n))
  | 0, ys, _, p => by
    cases p
    exact ⟨[], rfl, by rw [Nat.sub_zero, List.drop_length]; exact .nil⟩
  | n + 1, ys, hn, p => by
    rw [List.range'_succ] at p
    cases p with
    | @cons i y l1 l2 r t =>
      have hi : ms.length - (n + 1) < ms.length := by omega
      have e : ms.length - (n + 1) + 1 = ms.length - n := by omega
      rw [e] at t
      obtain ⟨ds, e1, e2⟩ := paired_range ms h (n := n) (by omega) t
      obtain ⟨d, e3, e4⟩ := h _ y _ (List.getElem?_eq_getElem hi) r
      refine ⟨d :: ds, by rw [e3, e1]; rfl, ?_⟩
      rw [List.drop_eq_getElem_cons hi, e]
      exact .cons e4 e2
theorem paired_range0 {F : Nat → V → Prop} {G : Addr → Mp → Prop} {ms : List Mp} {ys : List V} (p : Paired F ((List.range ms.length).filter fun _ => true) ys) (h : ∀ i y m, ms[i]? = some m → F i y → ∃ d, y = .ref d ∧ G d m) : ∃ ds : List Addr, ys = ds.map V.ref ∧ Paired G ds ms := by
  rw [List.filter_eq_self.mpr (fun _ _ => rfl), List.range_eq_range'] at p
  have e : ms.length - ms.length = 0 := Nat.sub_self _
  have q := paired_range ms h (n := ms.length) (Nat.le_refl _) (by rw [e]; exact p)
  rw [e] at q
  exact q
theorem ok_maps (T : Tx K mg) : OkM P w K mg base CX0 1 (He.ma K (He.ga K "Maps") "maps") ["self"] (spMaps (He.ga K "Maps")) :=
  okm_of T d_Maps_maps (by unfold fn; simp) rfl rfl rfl rfl rfl rfl sc_Maps_maps (fun _ _ _ _ _ _ us hl => match us, hl with | [_], _ => rfl) (fun vs H Q E ⟨_, _, _, h, _⟩ => by subst h; rfl) (fun f cdv A outer s H vs Q E hr h => by
  obtain ⟨x, hs, ms, rfl, ⟨dx, lh, lm, h1, h2, ds, h3, h4⟩, nd, z1, z2, k⟩ := h
  have hu := hu_of hr
  refine ⟨_, PSs.nox (pss_one (ps_ret (pe_lc (own := [("one", 1)])  rfl sc_Maps_maps.nd (pi_listk K (pe_fldk K (pv 0) rfl)) (blkOk_by (by kernel_rfl)) (fun _ _ _ _ _ => (pg_name (i := 1) sc_Maps_maps.nd rfl (by first | exact Or.inl rfl | exact Or.inr rfl))) (fun _ _ _ _ _ => pts_nil) (fun _ _ _ _ _ => (pe_dc (own := [("hand", 2)])  rfl sc_Maps_maps.nd (pi_listk K (pe_fldk K (pv 0) rfl)) (blkOk_by (by kernel_rfl)) (fun _ _ _ _ _ => (pg_name (i := 2) sc_Maps_maps.nd rfl (by first | exact Or.inl rfl | exact Or.inr rfl))) (fun _ _ _ _ _ => pts_nil) (fun _ _ _ _ _ => (pv 2)) (fun _ _ _ _ _ => (pe_callTy (call_list_ofk K) (by rfl) (T.Z "list") bt_list (pa_cons (pe_dget hu (pv 1) (pv 2) (fun _ _ => rfl)) pa_nil)))))))), ?_⟩
  have hlen := h4.length
  refine ⟨_, rfl, x, _, dx, _, _, rfl, h1, T.cM, T.nM, flds_m _ _, lm, rfl, ⟨_, SqL.of h3⟩, ?_⟩
  refine lcd (walk_list (xs := ds.map V.ref)) (by rw [List.length_map]; omega) [] (fun _ => true) (fun D i H' => Same H H') (fun i y H' => ∃ m d, ms[i]? = some m ∧ y = .ref d ∧ MapA H' hs d m)
    (fun i y H1 H2 s ⟨m, d, e1, e2, e3⟩ => ⟨m, d, e1, e2, e3.mono s⟩) (fun D o hD => same_new hD) (fun D i H' o hD s => same_mut s hD) (fun D i H' hD hi s => SqL.of (s _ _ h3)) ?_ ?_
  · rintro D i y H1 H2 acc hD hi s1 hA ⟨rfl, hy⟩ Kt Kf kt kf
    obtain ⟨d, hd, rfl⟩ := map_at hy
    obtain ⟨m, hm, ad, a1, a2⟩ := paired_at h4 hd
    refine ⟨rfl, tyes ?_⟩
    refine ⟨_, rfl, x, _, dx, _, _, rfl, s1 _ _ h1, T.cM, T.nH, flds_h _ _, lh, rfl, ⟨_, SqL.of (s1 _ _ h2)⟩, ?_⟩
    refine dcg (Qd := fun D' H' => Kt (.ref D') H') [D] hs nd (by omega) (fun k v H' => ∃ b, v = .ref b ∧ Strs H' b (m k)) (fun k v H3 H4 s ⟨b, e1, e2⟩ => ⟨b, e1, s _ _ e2⟩) (SqL.of (s1 _ _ h2)) ?_ ?_
    · rintro k0 D2 H3 hk s3 ⟨oD, hoD⟩ Kt2 Kf2 kt2
      refine ⟨rfl, iteT (B := Kf2 H3) ?_⟩
      refine ⟨_, rfl, _, rfl, _, rfl, d, _, rfl, (valV_mkv hk ▸ DGet.k (k := Sum.inr k0) (s3 _ _ (s1 _ _ a1))), ad k0, _, rfl, .inl (SqL.of (s3 _ _ (s1 _ _ (a2 k0 hk)))), fun b nb => ?_⟩
      refine kt2 _ _ (same_new nb) ⟨b, rfl, hid_of ?_ upd_same⟩
      simpa using And.intro (ne_of_none hoD nb).symm (ne_of_none (s3 _ _ hA) nb).symm
    · intro D2 H3 fv nD2 s3 hD2 hf
      refine kt rfl _ _ (s1.trans s3) (s3 _ _ hA) (same_hid s3) ⟨m, D2, hm, rfl, mapA_of hD2 ?_ hf⟩
      simpa using (ne_of_none hA nD2).symm
  · intro D H1 ys hD s1 hA hp
    rw [List.length_map, hlen] at hp
    obtain ⟨ds', e1, e2⟩ := paired_range0 (G := fun d m => MapA (hid [D] H1) hs d m) hp fun i y m hi ⟨m', d, h5, h6, h7⟩ => ⟨d, h6, by rw [hi] at h5; cases h5; exact h7⟩
    refine k D H1 hD s1 ⟨ds', by rw [hA, e1], L2.Paired.mapP e2 fun d m h => h.mono hid_le⟩)
end
end K9

/-! ## K4 -/
set_option maxHeartbeats 1000000
namespace K9
open PySem PySem.Spec PyProof.Rows L2
section
variable {P : Program} {w : World} {K : PySem.W.Frag} {mg : Str → Option Value} {base : Heap}
/-! ### the two errors -/
def spExI (C : Addr) : Sp := fun vs H Q _ => ∃ a v, vs = [.ref a, v] ∧ H a = some (exo a C none) ∧ ∀ dx, H dx = none → dx ≠ a → Q .non (upd (upd H dx (exd dx [(("thing" : Str), v)])) a (exo a C (some dx)))
theorem sc_NoHand_init : FnScope ["self", "thing"] ["self", "thing"] (defScope s_NoHand_init) := ⟨rfl, rfl, rfl, by decide +kernel, rfl, by decide +kernel, by decide +kernel⟩
theorem sc_BadNumber_init : FnScope ["self", "thing"] ["self", "thing"] (defScope s_BadNumber_init) := ⟨rfl, rfl, rfl, by decide +kernel, rfl, by decide +kernel, by decide +kernel⟩
theorem ok_NoHand (T : Tx K mg) : OkM P w K mg base CX0 1 (He.ma K (He.ga K "NoHand") "__init__") ["self", "thing"] (spExI (He.ga K "NoHand")) :=
  okm_of T d_NoHand_init (by unfold fn; simp) rfl rfl rfl rfl rfl rfl sc_NoHand_init (fun _ _ _ _ _ _ us hl => match us, hl with | [_, _], _ => rfl) (fun vs H Q E ⟨_, _, h, _⟩ => by subst h; rfl) (fun f cdv A outer s H vs Q E hr h => by
  obtain ⟨a, v, rfl, ha, k⟩ := h
  refine ⟨_, PSs.nox (pss_one (ps_ost (pv 0) (pv 1))), ?_⟩
  exact ⟨_, rfl, _, rfl, a, _, rfl, T.eH.oex, T.eH.no, .inl ⟨ha, k⟩⟩)
theorem ok_BadNumber (T : Tx K mg) : OkM P w K mg base CX0 1 (He.ma K (He.ga K "BadNumber") "__init__") ["self", "thing"] (spExI (He.ga K "BadNumber")) :=
  okm_of T d_BadNumber_init (by unfold fn; simp) rfl rfl rfl rfl rfl rfl sc_BadNumber_init (fun _ _ _ _ _ _ us hl => match us, hl with | [_, _], _ => rfl) (fun vs H Q E ⟨_, _, h, _⟩ => by subst h; rfl) (fun f cdv A outer s H vs Q E hr h => by
  obtain ⟨a, v, rfl, ha, k⟩ := h
  refine ⟨_, PSs.nox (pss_one (ps_ost (pv 0) (pv 1))), ?_⟩
  exact ⟨_, rfl, _, rfl, a, _, rfl, T.eN.oex, T.eN.no, .inl ⟨ha, k⟩⟩)
/-- what is left of the making of such an error -/
theorem mk_reads {C : Addr} {v : V} {σ : L2.St} {H H1 : Hp} {ta : TA} {Q : XK} (ha : ∀ R : List V → Hp → Prop, R [v] H1 → ta σ H R) (k : ∀ d H', Same H1 H' → H1 d = none → H' d = some (.xd [(("thing" : Str), v)]) → Q (.ref C) (some d) H') : tMkO C (spExI C) [] ta σ H Q := by
  refine ha _ ⟨by show 1 ≤ 1000; decide, fun a na => ?_⟩
  refine ⟨a, v, rfl, upd_same, fun dx ndx ne => ⟨rfl, dx, [(("thing" : Str), v)], upd_same, ?_, ?_, ?_⟩⟩
  · rw [upd_ne ne, upd_same]
  · have h := ndx
    rw [upd_ne ne] at h
    exact h
  · have h := ndx
    rw [upd_ne ne] at h
    refine k dx _ (fun b o e => ?_) h upd_same
    have nb : b ≠ a := ne_of_none e na
    have nd : b ≠ dx := ne_of_none e h
    rw [upd_ne nd, del_ne nb, upd_ne nb, upd_ne nd, upd_ne nb]
    exact e
/-! ### checked_hand -/
theorem sc_checked_hand : FnScope ["world", "hand"] ["world", "hand"] (defScope s_checked_hand) := ⟨rfl, rfl, rfl, by decide +kernel, rfl, by decide +kernel, by decide +kernel⟩
def spCheckedHand (C N : Addr) : Sp := fun vs H Q E => ∃ x v n hs ms, vs = [.ref x, v] ∧ WorldAt C H x hs ms ∧ Odd H v n ∧ (∀ z, v = .str z → z.length ≤ 1000) ∧ (handB v hs = true → ∀ H', Same H H' → Q v H') ∧
  (handB v hs = false → ∀ d H', Same H H' → H d = none → H' d = some (.xd [(("thing" : Str), v)]) → E (.ref N) (some d) H')
theorem ok_checked_hand (T : Tx K mg) : Ok P w K mg base (L2.CX P w) 3 "checked_hand" ["world", "hand"] (spCheckedHand (He.ga K "Maps") (He.ga K "NoHand")) :=
  ok_of T d_checked_hand (by unfold fn; simp) rfl rfl rfl rfl rfl rfl (by decide +kernel) sc_checked_hand (fun _ _ _ _ _ _ us hl => match us, hl with | [_, _], _ => rfl) (fun vs H Q E ⟨_, _, _, _, _, h, _⟩ => by subst h; rfl) (fun f cdv A outer s H vs Q E hr h => by
  obtain ⟨x, v, n, hs, ms, rfl, W, o, hz, k1, k2⟩ := h
  obtain ⟨fdH, bH, GH⟩ := ok_hands (P := P) (w := w) (base := base) T
  obtain ⟨fdI, bI, GI⟩ := ok_NoHand (P := P) (w := w) (base := base) T
  refine ⟨_, (pss_cons (ps_if (pt_not (pt_val (pe_c (ok_is_hand_of T) (hr.mono (by decide)) pass0 (pa_cons (pv 1) (pa_cons (pe_meth0 (pv 0) T.cM T.mH GH (hr.mono (by decide)) bH .nil pass0) pa_nil))))) (pss_one (ps_raise rfl (takes_of rfl rfl rfl rfl) (pmk_oex T.eH.oex T.eH.ini T.eH.ty GI (hr.mono (by decide)) bI .nil pass0 rfl (T.G "NoHand") (pa_cons (pv 1) pa_nil)))) pss_nil)
    (pss_one (ps_ret (pv 1)))), ?_⟩
  obtain ⟨dx, lh, lm, h1, _⟩ := id W
  refine ⟨_, rfl, _, rfl, x, dx, _, rfl, h1, flds_no _ _ (by decide +kernel) (by decide +kernel), x, hs, ms, rfl, W, fun p H1 np s1 hp => ?_⟩
  refine ⟨v, n, p, hs, rfl, o.mono s1, hz, hp, fun H2 s2 => ⟨_, rfl, ?_⟩⟩
  have s12 := s1.trans s2
  cases e : handB v hs with
  | true => exact iteF ⟨_, rfl, k1 e _ s12⟩
  | false =>
    refine iteT ?_
    refine mk_reads (H1 := H2) (v := v) (fun R r => ⟨_, rfl, r⟩) fun d H' s3 nd hd => ?_
    exact k2 e d H' (s12.trans s3) (s12.free nd) hd)
/-! ### checked_number -/
theorem sc_checked_number : FnScope ["thing"] ["thing"] (defScope s_checked_number) := ⟨rfl, rfl, rfl, by decide +kernel, rfl, by decide +kernel, by decide +kernel⟩
def numB : V → Bool
  | .int i => decide (0 ≤ i)
  | _ => false
def spNum (N : Addr) : Sp := fun vs H Q E => ∃ v n, vs = [v] ∧ Odd H v n ∧ (numB v = true → Q v H) ∧ (numB v = false → ∀ d H', Same H H' → H d = none → H' d = some (.xd [(("thing" : Str), v)]) → E (.ref N) (some d) H')
theorem ok_checked_number (T : Tx K mg) : Ok P w K mg base (L2.CX P w) 3 "checked_number" ["thing"] (spNum (He.ga K "BadNumber")) :=
  ok_of T d_checked_number (by unfold fn; simp) rfl rfl rfl rfl rfl rfl (by decide +kernel) sc_checked_number (fun _ _ _ _ _ _ us hl => match us, hl with | [_], _ => rfl) (fun vs H Q E ⟨_, _, h, _⟩ => by subst h; rfl) (fun f cdv A outer s H vs Q E hr h => by
  obtain ⟨v, n, rfl, o, k1, k2⟩ := h
  obtain ⟨fdI, bI, GI⟩ := ok_BadNumber (P := P) (w := w) (base := base) T
  refine ⟨_, (pss_cons (ps_if (PW.pt (pw_or (pt_not (pt_val (pe_c (ok_is_integer T) (hr.mono (by decide)) pass0 (pa_cons (pv 0) pa_nil)))) (pw_or1 (pt_cmpR op_lt (pv 0) pe_int (nomark _))))) (pss_one (ps_raise rfl (takes_of rfl rfl rfl rfl) (pmk_oex T.eN.oex T.eN.ini T.eN.ty GI (hr.mono (by decide)) bI .nil pass0 rfl (T.G "BadNumber") (pa_cons (pv 0) pa_nil)))) pss_nil)
    (pss_one (ps_ret (pv 0)))), ?_⟩
  refine ⟨_, rfl, v, n, rfl, o, _, rfl, ?_⟩
  have bad : numB v = false → tMkO (He.ga K "BadNumber") (spExI (He.ga K "BadNumber")) [] (tCons (tVar 0) tNil) (start ["thing"] [v]) H (fun cls d H' => E cls d H') := fun e =>
    mk_reads (H1 := H) (v := v) (fun R r => ⟨_, rfl, r⟩) fun d H' s3 nd hd => k2 e d H' s3 nd hd
  cases o with
  | int i =>
    rw [show (isB "int" "int" && !isB "int" "bool") = true by decide +kernel]
    refine iteF ⟨_, rfl, _, _, rfl, rfl, _, rfl, ?_⟩
    by_cases h : i < 0
    · exact iteB (decide_eq_true h) (bad (decide_eq_false (by omega)))
    · exact iteBF (decide_eq_false h) ⟨_, rfl, k1 (decide_eq_true (by omega))⟩
  | non =>
    rw [show (isB "NoneType" "int" && !isB "NoneType" "bool") = false by decide +kernel]
    exact iteT (iteT (bad rfl))
  | bl b =>
    rw [show (isB "bool" "int" && !isB "bool" "bool") = false by decide +kernel]
    exact iteT (iteT (bad rfl))
  | str z =>
    rw [show (isB "str" "int" && !isB "str" "bool") = false by decide +kernel]
    exact iteT (iteT (bad rfl))
  | lst h =>
    rw [show (isB "list" "int" && !isB "list" "bool") = false by decide +kernel]
    exact iteT (iteT (bad rfl))
  | tup h =>
    rw [show (isB "tuple" "int" && !isB "tuple" "bool") = false by decide +kernel]
    exact iteT (iteT (bad rfl))
  | dK h =>
    rw [show (isB "dict" "int" && !isB "dict" "bool") = false by decide +kernel]
    exact iteT (iteT (bad rfl)))
/-! ### told_on, _law_m_behind -/
abbrev Lot (H : Hp) (t : Addr) (lot : List Str) : Prop := StrT H t lot ∨ Strs H t lot
theorem sc_told_on : FnScope ["heards", "lot", "hand", "other"] ["heards", "lot"] (defScope s_told_on) := ⟨rfl, rfl, rfl, by decide +kernel, rfl, by decide +kernel, by decide +kernel⟩
theorem sc_l_m_behind : FnScope ["_law_one", "_law_lot", "_law_hand", "_law_other"] ["_law_one", "_law_lot"] (defScope s_l_m_behind) := ⟨rfl, rfl, rfl, by decide +kernel, rfl, by decide +kernel, by decide +kernel⟩
/-- the inner question: does any of those that k hears stand in the lot -/
theorem beh_inner {H1 : Hp} {σ : L2.St} {d t : Addr} {m : Mp} {ks hs : List Str} {ad : Str → Addr} {lot : List Str} {k : Str} (p : ks.Perm hs) (hd : H1 d = some (.dK (mkv ks ad))) (ha : ∀ k ∈ hs, Strs H1 (ad k) (m k)) (hlot : Lot H1 t lot) (hk : k ∈ hs) (hl : (m k).length ≤ 1000)
    {nm : L2.St → L2.St} (e0 : σ[0]? = some (some (.ref d))) (e1 : ∀ o, ((wipe σ [3]).set 3 (some (.str o)))[1]? = some (some (.ref t))) (e2 : σ[2]? = some (some (.str k))) (e3 : ∀ o, ((wipe σ [3]).set 3 (some (.str o)))[3]? = some (some (.str o))) (e4 : ∀ o, wipe ((wipe σ [3]).set 3 (some (.str o))) [3] = wipe σ [3])
    {Q : Bool → Hp → Prop} (q : ∀ H2, Same H1 H2 → Q ((m k).any fun o => decide (o ∈ lot)) H2) :
    tB (tCB (rAny K) (tCons (tLc (iList K (tDGet (tVar 0) (tVar 2))) (gName 3) tYes (tOp (rIn K false) (tVar 3) (tVar 1)) [3]) tNil)) σ H1 Q := by
  have hks : k ∈ ks := p.mem_iff.mpr hk
  refine ⟨_, e0, _, e2, d, .ref (ad k), rfl, (valV_mkv hks ▸ DGet.k (k := Sum.inr k) hd), ad k, rfl, ⟨_, SqL.of (ha k hk)⟩, ?_⟩
  refine lcl (m k) V.str (fun _ => true) (fun o => .bl (decide (o ∈ lot))) (SqL.of (ha k hk)) hl ?_ ?_
  · rintro i o H2 ho s2 Kt Kf kt kf
    refine ⟨e4 o, tyes ?_⟩
    refine ⟨_, e3 o, _, e1 o, t, _, rfl, ?_, rfl, flat_strs lot, ?_⟩
    · rcases hlot with h | h
      · exact .inr (SqT.of (s2 _ _ h))
      · exact .inl (SqL.of (s2 _ _ h))
    · have := kt rfl H2 (.refl _)
      rw [inV_str]
      exact this
  · intro D H2 hD s2 h2
    refine ⟨D, (m k).map fun o => decide (o ∈ lot), rfl, SqL.of ?_, _, rfl, ?_⟩
    · rw [h2, List.filter_eq_self.mpr (fun _ _ => rfl), List.map_map]
      rfl
    · have := q H2 s2
      rw [List.any_map]
      exact this
def spTold : Sp := fun vs H Q _ => ∃ d t hs m lot, vs = [.ref d, .ref t] ∧ MapP H hs d m ∧ hs.length ≤ 60 ∧ (∀ k ∈ hs, (m k).length ≤ 1000) ∧ Lot H t lot ∧ ∀ p H', H p = none → Same H H' → StrT H' p (KM.beh (srt hs) m lot) → Q (.ref p) H'
def spBehind : Sp := fun vs H Q _ => ∃ d t hs m lot, vs = [.ref d, .ref t] ∧ MapP H hs d m ∧ hs.length ≤ 60 ∧ (∀ k ∈ hs, (m k).length ≤ 1000) ∧ Lot H t lot ∧ ∀ p H', H p = none → Same H H' → Strs H' p (KM.beh (srt hs) m lot) → Q (.ref p) H'
theorem ok_told_on (T : Tx K mg) : Ok P w K mg base CX0 1 "told_on" ["heards", "lot"] spTold :=
  ok_of T d_told_on (by unfold fn; simp) rfl rfl rfl rfl rfl rfl (by decide +kernel) sc_told_on (fun _ _ _ _ _ _ us hl => match us, hl with | [_, _], _ => rfl) (fun vs H Q E ⟨_, _, _, _, _, h, _⟩ => by subst h; rfl) (fun f cdv A outer s H vs Q E hr h => by
  obtain ⟨d, t, hs, m, lot, rfl, ⟨ks, ad, hp, hd, ha⟩, hl, hlen, hlot, k⟩ := h
  have hu := hu_of hr
  refine ⟨_, PSs.nox (pss_one (ps_ret (pe_callTy (call_tuple_ofk K) (by rfl) (T.Z "tuple") bt_tuple (pa_cons (pe_lc (own := [("hand", 2)])  rfl sc_told_on.nd (pi_listk K (pe_callB (call_sortedD rfl) (by rfl) (T.Z "sorted") bt_sorted (pa_cons (pv 0) pa_nil))) (blkOk_by (by kernel_rfl)) (fun _ _ _ _ _ => (pg_name (i := 2) sc_told_on.nd rfl (by first | exact Or.inl rfl | exact Or.inr rfl))) (fun _ _ _ _ _ => (pts_one (pt_val (pe_callB (cr_anyk K rfl) (by rfl) (T.Z "any") bt_any (pa_cons (pe_lc (own := [("other", 3)])  rfl sc_told_on.nd (pi_listk K (pe_dget hu (pv 0) (pv 2) (fun _ _ => rfl))) (blkOk_by (by kernel_rfl)) (fun _ _ _ _ _ => (pg_name (i := 3) sc_told_on.nd rfl (by first | exact Or.inl rfl | exact Or.inr rfl))) (fun _ _ _ _ _ => pts_nil) (fun _ _ _ _ _ => (pe_cmpR (op_in_seqk K) (pv 3) (pv 1) (by rfl)))) pa_nil))))) (fun _ _ _ _ _ => (pv 2))) pa_nil)))), ?_⟩
  refine ⟨_, rfl, d, _, ks, rfl, .of hd, mkv_keys ks ad, by rw [hp.length_eq]; omega, fun ys r hp2 hso nr => ?_⟩
  rw [show ys = srt hs from srt_is (hp2.trans hp) hso]
  refine ⟨r, rfl, ⟨_, SqL.of upd_same⟩, ?_⟩
  have s1 := same_new (o := .lst ((srt hs).map V.str)) nr
  refine lcl (srt hs) V.str (fun k => (m k).any fun o => decide (o ∈ lot)) V.str (SqL.of upd_same) (by rw [srt_len]; omega) ?_ ?_
  · rintro i k0 H2 hk s2 Kt Kf kt kf
    have s12 := s1.trans s2
    have hk0 : k0 ∈ hs := mem_srt.mp (at_mem hk)
    refine ⟨rfl, ?_⟩
    refine beh_inner (nm := id) hp (s12 _ _ hd) (fun k hk => s12 _ _ (ha k hk)) (hlot.elim (fun h => .inl (s12 _ _ h)) fun h => .inr (s12 _ _ h)) hk0 (hlen k0 hk0) rfl (fun _ => rfl) rfl (fun _ => rfl) (fun _ => rfl) fun H3 s3 => ?_
    cases e : (m k0).any fun o => decide (o ∈ lot) with
    | true => exact iteT (B := Kf H3) ⟨_, rfl, kt e _ s3⟩
    | false => exact iteF (kf e _ s3)
  · intro D H2 hD s2 h2
    refine ⟨D, _, rfl, .inl ⟨SqL.of h2, fun r2 n2 => ?_⟩⟩
    exact k r2 _ (s1.free (s2.free n2)) ((s1.trans s2).trans (same_new n2)) upd_same)
theorem ok_l_m_behind (T : Tx K mg) : Ok P w K mg base CX0 1 "_law_m_behind" ["_law_one", "_law_lot"] spBehind :=
  ok_of T d_l_m_behind (by unfold fn; simp) rfl rfl rfl rfl rfl rfl (by decide +kernel) sc_l_m_behind (fun _ _ _ _ _ _ us hl => match us, hl with | [_, _], _ => rfl) (fun vs H Q E ⟨_, _, _, _, _, h, _⟩ => by subst h; rfl) (fun f cdv A outer s H vs Q E hr h => by
  obtain ⟨d, t, hs, m, lot, rfl, ⟨ks, ad, hp, hd, ha⟩, hl, hlen, hlot, k⟩ := h
  have hu := hu_of hr
  refine ⟨_, PSs.nox (pss_one (ps_ret (pe_lc (own := [("_law_hand", 2)])  rfl sc_l_m_behind.nd (pi_listk K (pe_callB (call_sortedD rfl) (by rfl) (T.Z "sorted") bt_sorted (pa_cons (pv 0) pa_nil))) (blkOk_by (by kernel_rfl)) (fun _ _ _ _ _ => (pg_name (i := 2) sc_l_m_behind.nd rfl (by first | exact Or.inl rfl | exact Or.inr rfl))) (fun _ _ _ _ _ => (pts_one (pt_val (pe_callB (cr_anyk K rfl) (by rfl) (T.Z "any") bt_any (pa_cons (pe_lc (own := [("_law_other", 3)])  rfl sc_l_m_behind.nd (pi_listk K (pe_dget hu (pv 0) (pv 2) (fun _ _ => rfl))) (blkOk_by (by kernel_rfl)) (fun _ _ _ _ _ => (pg_name (i := 3) sc_l_m_behind.nd rfl (by first | exact Or.inl rfl | exact Or.inr rfl))) (fun _ _ _ _ _ => pts_nil) (fun _ _ _ _ _ => (pe_cmpR (op_in_seqk K) (pv 3) (pv 1) (by rfl)))) pa_nil))))) (fun _ _ _ _ _ => (pv 2))))), ?_⟩
  refine ⟨_, rfl, d, _, ks, rfl, .of hd, mkv_keys ks ad, by rw [hp.length_eq]; omega, fun ys r hp2 hso nr => ?_⟩
  rw [show ys = srt hs from srt_is (hp2.trans hp) hso]
  refine ⟨r, rfl, ⟨_, SqL.of upd_same⟩, ?_⟩
  have s1 := same_new (o := .lst ((srt hs).map V.str)) nr
  refine lcl (srt hs) V.str (fun k => (m k).any fun o => decide (o ∈ lot)) V.str (SqL.of upd_same) (by rw [srt_len]; omega) ?_ ?_
  · rintro i k0 H2 hk s2 Kt Kf kt kf
    have s12 := s1.trans s2
    have hk0 : k0 ∈ hs := mem_srt.mp (at_mem hk)
    refine ⟨rfl, ?_⟩
    refine beh_inner (nm := id) hp (s12 _ _ hd) (fun k hk => s12 _ _ (ha k hk)) (hlot.elim (fun h => .inl (s12 _ _ h)) fun h => .inr (s12 _ _ h)) hk0 (hlen k0 hk0) rfl (fun _ => rfl) rfl (fun _ => rfl) (fun _ => rfl) fun H3 s3 => ?_
    cases e : (m k0).any fun o => decide (o ∈ lot) with
    | true => exact iteT (B := Kf H3) ⟨_, rfl, kt e _ s3⟩
    | false => exact iteF (kf e _ s3)
  · intro D H2 hD s2 h2
    exact k D _ (s1.free hD) (s1.trans s2) h2)
end
end K9

/-! ## KDp -/
set_option maxHeartbeats 1000000
namespace K9
open PySem PySem.Spec PyProof.Rows L2
/-! ### more of hidden parts -/
theorem hid_more {S T : List Addr} {H H' : Hp} (h : ∀ a ∈ S, a ∈ T) (s : Same (hid S H) (hid S H')) : Same (hid T H) (hid T H') := fun a o e => by
  obtain ⟨n, e1⟩ := hid_at e
  exact hid_of n (hid_at (s a o (hid_of (fun z => n (h a z)) e1))).2
theorem kp_mut {S : List Addr} {H H' : Hp} {p : Addr} {o : HO} (s : Same (hid S H) (hid S H')) (n : H p = none) : Same (hid S H) (hid S (upd H' p o)) := fun a u e => by
  obtain ⟨na, e1⟩ := hid_at e
  have ne : a ≠ p := ne_of_none e1 n
  refine hid_of na ?_
  rw [upd_ne ne]
  exact (hid_at (s a u e)).2
theorem kp_new {S : List Addr} {H H' : Hp} {p : Addr} {o : HO} (s : Same (hid S H) (hid S H')) (n : H' p = none) : Same (hid S H) (hid S (upd H' p o)) := Same.trans s (same_hid (same_new n))
theorem kp_at {S : List Addr} {H H' : Hp} {a : Addr} {o : HO} (s : Same (hid S H) (hid S H')) (n : a ∉ S) (h : H a = some o) : H' a = some o := (hid_at (s a o (hid_of n h))).2
/-! ### data -/
def lD (l : List Str) : PyData := .list (l.map .str)
def tD (l : List Str) : PyData := .tuple (l.map .str)
theorem dpAll_str {K : PySem.W.Frag} {H : Hp} : ∀ l : List Str, DpAll K H (l.map V.str) (l.map .str)
  | [] => .nil
  | x :: r => .cons (.str x) (dpAll_str r)
theorem dp_l {K : PySem.W.Frag} {H : Hp} {a : Addr} {l : List Str} (h : Strs H a l) : Dp K H (.ref a) (lD l) := .lst (SqL.of h) (dpAll_str l)
theorem dp_t {K : PySem.W.Frag} {H : Hp} {a : Addr} {l : List Str} (h : StrT H a l) : Dp K H (.ref a) (tD l) := .tup (SqT.of h) (dpAll_str l)
theorem dpAll_of {K : PySem.W.Frag} {H : Hp} {α : Type} {f : α → PyData} : ∀ {ps : List Addr} {ls : List α}, Paired (fun p l => Dp K H (.ref p) (f l)) ps ls → DpAll K H (ps.map V.ref) (ls.map f)
  | _, _, .nil => .nil
  | _, _, .cons r t => .cons r (dpAll_of t)
abbrev SO (l : List Str) : Prop := ∀ x ∈ l, PyData.strOk x = true
theorem lay_str : ∀ l : List Str, SO l → PyData.canLayAll0 (l.map .str) = true
  | [], _ => by simp [PyData.canLayAll0]
  | x :: r, h => by simp [PyData.canLayAll0, PyData.canLay0, lay_str r (fun y hy => h y (List.mem_cons_of_mem _ hy)), h x List.mem_cons_self]
theorem dep_str : ∀ l : List Str, PyData.depthAll (l.map .str) = 0
  | [] => by simp [PyData.depthAll]
  | x :: r => by
    have := dep_str r
    simp only [List.map_cons, PyData.depthAll, PyData.depth, this]
    rfl
theorem lD_lay {l : List Str} (h : SO l) : (lD l).canLay0 = true := by unfold lD; simp only [PyData.canLay0]; exact lay_str l h
theorem tD_lay {l : List Str} (h : SO l) : (tD l).canLay0 = true := by unfold tD; simp only [PyData.canLay0]; exact lay_str l h
theorem lD_dep (l : List Str) : (lD l).depth ≤ 1 := by unfold lD; simp only [PyData.depth, dep_str]; omega
theorem tD_dep (l : List Str) : (tD l).depth ≤ 1 := by unfold tD; simp only [PyData.depth, dep_str]; omega
theorem all_lay {α : Type} {f : α → PyData} : ∀ {l : List α}, (∀ x ∈ l, (f x).canLay0 = true) → PyData.canLayAll0 (l.map f) = true
  | [], _ => by simp [PyData.canLayAll0]
  | x :: r, h => by simp [PyData.canLayAll0, h x List.mem_cons_self, all_lay (l := r) (fun y hy => h y (List.mem_cons_of_mem _ hy))]
theorem all_dep {α : Type} {f : α → PyData} {n : Nat} (h : ∀ x, (f x).depth ≤ n) : ∀ l : List α, PyData.depthAll (l.map f) ≤ n
  | [] => by simp [PyData.depthAll]
  | x :: r => by
    have h1 := all_dep h r
    have h2 := h x
    simp only [List.map_cons, PyData.depthAll]
    omega
theorem shaped_of {d : PyData} (h1 : d.canLay0 = true) (h2 : d.depth ≤ 64) : SeqAt.shaped d = true := by
  show (d.canLay0 && decide (d.depth ≤ 64)) = true
  rw [h1, decide_eq_true h2]
  rfl
theorem lD_shaped {l : List Str} (h : SO l) : SeqAt.shaped (lD l) = true := shaped_of (lD_lay h) (by have := lD_dep l; omega)
theorem tD_shaped {l : List Str} (h : SO l) : SeqAt.shaped (tD l) = true := shaped_of (tD_lay h) (by have := tD_dep l; omega)
theorem ll_shaped {f : List Str → PyData} {l : List (List Str)} (h1 : ∀ x ∈ l, (f x).canLay0 = true) (h2 : ∀ x, (f x).depth ≤ 1) : SeqAt.shaped (.list (l.map f)) = true :=
  shaped_of (by simp only [PyData.canLay0]; exact all_lay h1) (by have := all_dep h2 l; simp only [PyData.depth]; omega)
theorem eqvAll_str : ∀ a b : List Str, PyData.eqvAll (a.map .str) (b.map .str) = decide (a = b)
  | [], [] => by simp [PyData.eqvAll]
  | [], _ :: _ => by simp [PyData.eqvAll]
  | _ :: _, [] => by simp [PyData.eqvAll]
  | x :: a, y :: b => by
    have ih := eqvAll_str a b
    simp only [List.map_cons, PyData.eqvAll, PyData.eqv, ih]
    by_cases e : x = y
    · subst e; simp
    · simp [e]
theorem eqv_tD (a b : List Str) : PyData.eqv (tD a) (tD b) = decide (a = b) := by unfold tD; simp only [PyData.eqv, eqvAll_str]
theorem eqv_lD (a b : List Str) : PyData.eqv (lD a) (lD b) = decide (a = b) := by unfold lD; simp only [PyData.eqv, eqvAll_str]
theorem any_tD (x : List Str) (l : List (List Str)) : ((l.map tD).any fun z => PyData.eqv z (tD x)) = decide (x ∈ l) := by
  rw [List.any_map, Bool.eq_iff_iff]
  simp only [List.any_eq_true, Function.comp, eqv_tD, decide_eq_true_eq]
  exact ⟨fun ⟨y, h1, h2⟩ => h2 ▸ h1, fun h => ⟨x, h, rfl⟩⟩
theorem any_lD (x : List Str) (l : List (List Str)) : ((l.map lD).any fun z => PyData.eqv z (lD x)) = decide (x ∈ l) := by
  rw [List.any_map, Bool.eq_iff_iff]
  simp only [List.any_eq_true, Function.comp, eqv_lD, decide_eq_true_eq]
  exact ⟨fun ⟨y, h1, h2⟩ => h2 ▸ h1, fun h => ⟨x, h, rfl⟩⟩
/-! ### worlds -/
structure Wd (hs : List Str) (ms : List Mp) : Prop where
  G : KM.Good hs ms
  so : srt hs = hs
  h2 : 2 ≤ hs.length
  h4 : hs.length ≤ 4
  m5 : ms.length ≤ 5
  ok : SO hs
  len : ∀ m ∈ ms, ∀ k ∈ hs, (m k).length ≤ 1000
end K9

/-! ## K5 -/
set_option maxHeartbeats 2000000
namespace K9
open PySem PySem.Spec PyProof.Rows L2
/-! ### what the program remembers -/
abbrev lk (lot : List Str) : List Key := lot.map Sum.inr
theorem lk_inj : ∀ {a b : List Str}, lk a = lk b → a = b
  | [], [], _ => rfl
  | [], _ :: _, h => by cases h
  | _ :: _, [], h => by cases h
  | x :: a, y :: b, h => by
    injection h with h1 h2
    rw [Sum.inr.inj h1, lk_inj h2]
theorem lk_kV (lot : List Str) : (lk lot).map kV = lot.map V.str := by unfold lk; rw [List.map_map]; rfl
structure KeptAt {hs : List Str} {ms : List Mp} (G : KM.Good hs ms) (H : Hp) (kd : Addr) (kvs : List (List Key × V)) : Prop where
  at_ : H kd = some (.dT kvs)
  ok : ∀ lot v, lot.Sublist hs → valV kvs (lk lot) = some v → v = .int (KM.LV G lot)
theorem KeptAt.put {hs : List Str} {ms : List Mp} {G : KM.Good hs ms} {H : Hp} {kd : Addr} {kvs : List (List Key × V)} (h : KeptAt G H kd kvs) {lot : List Str} {v : V} (hv : v = .int (KM.LV G lot)) : KeptAt G (upd H kd (.dT (putK kvs (lk lot) v))) kd (putK kvs (lk lot) v) :=
  ⟨upd_same, fun lot' v' hl e => by
    rw [valV_put] at e
    by_cases q : lk lot' = lk lot
    · rw [if_pos q] at e
      rw [lk_inj q, ← Option.some.inj e]
      exact hv
    · rw [if_neg q] at e
      exact h.ok lot' v' hl e⟩
theorem putK_len {κ : Type} [DecidableEq κ] (kvs : List (κ × V)) (k : κ) (v : V) : (putK kvs k v).length ≤ kvs.length + 1 := by
  unfold putK
  split
  · rw [List.length_map]; omega
  · simp
/-- a list of tuples: behind each map's round who knows -/
def LatAt (H : Hp) (hs : List Str) (lot : List Str) (a : Addr) (ms : List Mp) : Prop := ∃ ps : List Addr, H a = some (.lst (ps.map V.ref)) ∧ Paired (fun p m => StrT H p (KM.beh hs m lot)) ps ms
theorem LatAt.mono {H H' : Hp} {hs lot : List Str} {a : Addr} {ms : List Mp} (s : Same H H') (h : LatAt H hs lot a ms) : LatAt H' hs lot a ms := let ⟨ps, h1, h2⟩ := h; ⟨ps, s _ _ h1, L2.Paired.mapP h2 fun p m h => s _ _ h⟩
theorem LatAt.dp {K : PySem.W.Frag} {H : Hp} {hs lot : List Str} {a : Addr} {ms : List Mp} (h : LatAt H hs lot a ms) : Dp K H (.ref a) (.list ((ms.map fun m => KM.beh hs m lot).map tD)) := by
  obtain ⟨ps, h1, h2⟩ := h
  refine .lst (SqL.of h1) ?_
  rw [List.map_map]
  exact dpAll_of (f := tD ∘ fun m => KM.beh hs m lot) (L2.Paired.mapP h2 fun p m h => dp_t h)
section
variable {P : Program} {w : World} {K : PySem.W.Frag} {mg : Str → Option Value} {base : Heap}
theorem wipe1 {σ : L2.St} {i : Nat} {x : Option V} : wipe ((wipe σ [i]).set i x) [i] = wipe σ [i] := by
  show ((σ.set i none).set i x).set i none = σ.set i none
  rw [List.set_set, List.set_set]
/-- the comprehension [told_on(heards, lot) for heards in maps] -/
theorem later_lc {hs : List Str} {ms : List Mp} (W : Wd hs ms) {H1 : Hp} {σ : L2.St} {lm t : Addr} {lot : List Str} {i0 j0 : Nat} (hm : MapsP H1 hs lm ms) (ht : StrT H1 t lot) (e0 : σ[j0]? = some (some (.ref lm)))
    (e1 : ∀ v, ((wipe σ [i0]).set i0 (some v))[i0]? = some (some v)) {jt : Nat} (e2 : ∀ v, ((wipe σ [i0]).set i0 (some v))[jt]? = some (some (.ref t)))
    {Q : VK} (q : ∀ D H, H1 D = none → Same H1 H → LatAt H hs lot D ms → Q (.ref D) H) :
    tLc (iList K (tVar j0)) (gName i0) tYes (tCall spTold [] E0 (tCons (tVar i0) (tCons (tVar jt) tNil))) [i0] σ H1 Q := by
  obtain ⟨ds, h1, h2⟩ := hm
  have hlen := h2.length
  have hm5 := W.m5
  refine ⟨_, e0, lm, rfl, ⟨_, SqL.of h1⟩, ?_⟩
  refine lcd (walk_list (xs := ds.map V.ref)) (by rw [List.length_map]; omega) [] (fun _ => true) (fun D i H' => Same H1 H') (fun i y H' => ∃ m p, ms[i]? = some m ∧ y = .ref p ∧ StrT H' p (KM.beh hs m lot))
    (fun i y H1 H2 s ⟨m, d, e1, e2, e3⟩ => ⟨m, d, e1, e2, s _ _ e3⟩) (fun D o hD => same_new hD) (fun D i H' o hD s => same_mut s hD) (fun D i H' hD hi s => SqL.of (s _ _ h1)) ?_ ?_
  · rintro D i y H2 H3 acc hD hi s1 hA ⟨rfl, hy⟩ Kt Kf kt kf
    obtain ⟨d, hd, rfl⟩ := map_at hy
    obtain ⟨m, hmi, hP⟩ := paired_at h2 hd
    refine ⟨wipe1, tyes ?_⟩
    refine ⟨_, e1 _, _, e2 _, d, t, hs, m, lot, rfl, hP.mono s1, by have := W.h4; omega, W.len m (at_mem hmi), .inl (s1 _ _ ht), fun p H4 np s4 hp => ?_⟩
    rw [W.so] at hp
    refine kt rfl _ _ (s1.trans s4) (s4 _ _ hA) (same_hid s4) ⟨m, p, hmi, rfl, hid_of ?_ hp⟩
    simpa using (ne_of_none hA np).symm
  · intro D H2 ys hD s1 hA hp
    rw [List.length_map, hlen] at hp
    obtain ⟨ps, e1, e2⟩ := paired_range0 (G := fun p m => StrT (hid [D] H2) p (KM.beh hs m lot)) hp fun i y m hi ⟨m', d, h5, h6, h7⟩ => ⟨d, h6, by rw [hi] at h5; cases h5; exact h7⟩
    exact q D H2 hD s1 ⟨ps, by rw [hA, e1], L2.Paired.mapP e2 fun d m h => hid_le _ _ h⟩
/-! ### longest_lasting -/
theorem sc_longest_lasting : FnScope ["lot", "maps", "kept", "later", "heards", "other"] ["lot", "maps", "kept"] (defScope s_longest_lasting) := ⟨rfl, rfl, rfl, by decide +kernel, rfl, by decide +kernel, by decide +kernel⟩
theorem _root_.L2.Room.units65 {k : Nat} {A : Around} (r : Room k A) : A.units + 65 < cLine := by have := r.un; omega
def spLL (d : Nat) : Sp := fun vs H Q _ => ∃ t lm kd hs ms lot kvs, ∃ W : Wd hs ms, vs = [.ref t, .ref lm, .ref kd] ∧ StrT (hid [kd] H) t lot ∧ MapsP (hid [kd] H) hs lm ms ∧ KeptAt W.G H kd kvs ∧ lot.Sublist hs ∧ hs.length - lot.length ≤ d ∧ kvs.length + 6 ^ d ≤ 100000 ∧
  ∀ H' kvs', Same (hid [kd] H) (hid [kd] H') → KeptAt W.G H' kd kvs' → kvs'.length + 1 ≤ kvs.length + 6 ^ d → Q (.int (KM.LV W.G lot)) H'
theorem LatAt.hid {H : Hp} {hs lot : List Str} {a kd : Addr} {ms : List Mp} {kvs : List (List Key × V)} (hk : H kd = some (.dT kvs)) (h : LatAt H hs lot a ms) : LatAt (hid [kd] H) hs lot a ms := by
  obtain ⟨ps, h1, h2⟩ := h
  refine ⟨ps, hid_of (by simpa using ne_of h1 hk (fun z => by cases z)) h1, L2.Paired.mapP h2 fun p m h => hid_of (by simpa using ne_of h hk (fun z => by cases z)) h⟩
theorem paired_vals {f : Mp → V} {ms : List Mp} {ys : List V} {F : Nat → V → Prop} (p : Paired F ((List.range ms.length).filter fun _ => true) ys) (h : ∀ i y m, ms[i]? = some m → F i y → y = f m) : ys = ms.map f := by
  rw [List.filter_eq_self.mpr (fun _ _ => rfl)] at p
  have hl := p.length
  rw [List.length_range] at hl
  apply List.ext_getElem
  · rw [List.length_map, ← hl]
  · intro i h1 h2
    obtain ⟨j, e1, e2⟩ := paired_at' p (List.getElem?_eq_getElem h1)
    have hj : j = i := by
      rw [List.getElem?_range (by omega)] at e1
      exact (Option.some.inj e1).symm
    subst hj
    have hi : j < ms.length := by omega
    rw [h j _ _ (List.getElem?_eq_getElem hi) e2, List.getElem_map]
theorem full_of {hs lot : List Str} (hl : lot.Sublist hs) (h : hs.length - lot.length ≤ 0) : lot.length = hs.length := by
  have := hl.length_le
  omega
theorem mapsP_head {H : Hp} {hs : List Str} {l : Addr} {ms : List Mp} (h : MapsP H hs l ms) (ne : ms ≠ []) : ∃ d kvs r, H l = some (.lst (.ref d :: r)) ∧ H d = some (.dK kvs) ∧ kvs.length = hs.length := by
  obtain ⟨ds, h1, h2⟩ := h
  cases h2 with
  | nil => exact absurd rfl ne
  | cons r t =>
    obtain ⟨ks, ad, p, e, _⟩ := r
    exact ⟨_, _, _, h1, e, by rw [mkv_len, p.length_eq]⟩
theorem ok_ll (T : Tx K mg) : ∀ d : Nat, Ok P w K mg base CX0 (d + 2) "longest_lasting" ["lot", "maps", "kept"] (spLL d) := fun d => by
  induction d with
  | zero =>
    refine ok_of T d_longest_lasting (by unfold fn; simp) rfl rfl rfl rfl rfl rfl (by decide +kernel) sc_longest_lasting (fun _ _ _ _ _ _ us hl => match us, hl with | [_, _, _], _ => rfl) (fun vs H Q E ⟨_, _, _, _, _, _, _, _, h, _⟩ => by subst h; rfl) (fun f cdv A outer s H vs Q E hr h => ?_)
    obtain ⟨t, lm, kd, hs, ms, lot, kvs, W, rfl, ht, hm, hk, hl, hdep, hsz, k⟩ := h
    have hu := hu_of hr
    refine ⟨_, PSs.nox (pss_cons (ps_if (pt_cmpR op_eq (pe_callB (call_len_seqk K) (by rfl) (T.Z "len") bt_len (pa_cons (pv 0) pa_nil)) (pe_callB call_lenD (by rfl) (T.Z "len") bt_len (pa_cons (pe_ix (ix_listk K) (pv 1) pe_int (fun _ _ => rfl)) pa_nil)) (nomark _)) (pss_one (ps_ret (pe_un un_neg pe_int))) pss_nil) pss_never), ?_⟩
    obtain ⟨d0, kv0, r0, e1, e2, e3⟩ := mapsP_head (hm.mono hid_le) W.G.ne
    refine ⟨_, rfl, t, _, rfl, .inr (SqT.of (hid_le _ _ ht)), _, rfl, lm, _, 0, .ref d0, rfl, rfl, SqL.of e1, atI_nat (j := 0) rfl, d0, kv0, rfl, e2, rfl, _, rfl, ?_⟩
    have ef := full_of hl hdep
    rw [e3, List.length_map, ef]
    refine iteB (decide_eq_true rfl) ⟨_, rfl, ?_⟩
    have q := k H kvs (.refl _) hk (by omega)
    rw [KM.LV_full W.G ef] at q
    exact q
  | succ d IH =>
    refine ok_of T d_longest_lasting (by unfold fn; simp) rfl rfl rfl rfl rfl rfl (by decide +kernel) sc_longest_lasting (fun _ _ _ _ _ _ us hl => match us, hl with | [_, _, _], _ => rfl) (fun vs H Q E ⟨_, _, _, _, _, _, _, _, h, _⟩ => by subst h; rfl) (fun f cdv A outer s H vs Q E hr h => ?_)
    obtain ⟨t, lm, kd, hs, ms, lot, kvs, W, rfl, ht, hm, hk, hl, hdep, hsz, k⟩ := h
    have hu := hu_of hr
    refine ⟨_, PSs.nox (pss_cons (ps_if (pt_cmpR op_eq (pe_callB (call_len_seqk K) (by rfl) (T.Z "len") bt_len (pa_cons (pv 0) pa_nil)) (pe_callB call_lenD (by rfl) (T.Z "len") bt_len (pa_cons (pe_ix (ix_listk K) (pv 1) pe_int (fun _ _ => rfl)) pa_nil)) (nomark _)) (pss_one (ps_ret (pe_un un_neg pe_int))) pss_nil)
    (pss_cons (ps_if (pt_cmp (pc_dnotin hu (pv 0) (pv 2))) (pss_cons (ps_setLc (i := 3) (own := [("heards", 4)])  rfl sc_longest_lasting.nd rfl rfl (sw_true rfl rfl rfl (by decide +kernel)) (pi_listk K (pv 1)) (blkOk_by (by kernel_rfl)) (fun _ _ _ _ _ => (pg_name (i := 4) sc_longest_lasting.nd rfl (by first | exact Or.inl rfl | exact Or.inr rfl))) (fun _ _ _ _ _ => pts_nil) (fun _ _ _ _ _ => (pe_c (ok_told_on T) (hr.mono (by first | decide | omega)) pass0 (pa_cons (pv 4) (pa_cons (pv 0) pa_nil)))))
      (pss_one (ps_if (pt_cmpR (op_inDk K hr.units65) (pv 0) (pv 3) (by rfl)) (pss_one (ps_dput hu (pv 2) (pv 0) (pg_FOR_EVER T (by rfl)) rfl)) (pss_one (ps_dput hu (pv 2) (pv 0) (pe_callB (call_min2 rfl) (by rfl) (T.Z "min") bt_min (pa_cons (pg_FOR_EVER T (by rfl)) (pa_cons (pe_op op_add pe_int (pe_callB (cr_maxk K rfl) (by rfl) (T.Z "max") bt_max (pa_cons (pe_lc (own := [("other", 5)])  rfl sc_longest_lasting.nd (pi_listk K (pv 3)) (blkOk_by (by kernel_rfl)) (fun _ _ _ _ _ => (pg_name (i := 5) sc_longest_lasting.nd rfl (by first | exact Or.inl rfl | exact Or.inr rfl))) (fun _ _ _ _ _ => pts_nil) (fun _ _ _ _ _ => (pe_c IH (hr.mono (by first | decide | omega)) pass0 (pa_cons (pv 5) (pa_cons (pv 1) (pa_cons (pv 2) pa_nil)))))) pa_nil))) pa_nil))) rfl))))) pss_nil)
    (pss_one (ps_ret (pe_dget hu (pv 2) (pv 0) (fun _ _ => rfl)))))), ?_⟩
    obtain ⟨d0, kv0, r0, e1, e2, e3⟩ := mapsP_head (hm.mono hid_le) W.G.ne
    refine ⟨_, rfl, t, _, rfl, .inr (SqT.of (hid_le _ _ ht)), _, rfl, lm, _, 0, .ref d0, rfl, rfl, SqL.of e1, atI_nat (j := 0) rfl, d0, kv0, rfl, e2, rfl, _, rfl, ?_⟩
    rw [e3, List.length_map]
    have hlv := KM.LV_eq W.G hl
    have hc : 1 ≤ 6 ^ d := Nat.pow_pos (by decide)
    have hc2 : 6 ^ (d + 1) = 6 * 6 ^ d := by rw [Nat.pow_succ]; omega
    by_cases ef : lot.length = hs.length
    · rw [ef]
      refine iteB (decide_eq_true rfl) ⟨_, rfl, ?_⟩
      have q := k H kvs (.refl _) hk (by omega)
      rw [KM.LV_full W.G ef] at q
      exact q
    · refine iteBF (decide_eq_false fun z => ef (by have := V.int.inj z; omega)) ?_
      rw [if_neg ef] at hlv
      have ht' : H t = some (.tup ((lk lot).map kV)) := by rw [lk_kV]; exact hid_le _ _ ht
      refine ⟨_, rfl, _, rfl, kd, _, rfl, DGet.t hk.at_ ht', _, rfl, ?_⟩
      cases ev : valV kvs (lk lot) with
      | some v =>
        refine iteF ⟨_, rfl, _, rfl, kd, v, rfl, ev ▸ DGet.t hk.at_ ht', ?_⟩
        rw [hk.ok lot v hl ev]
        exact k H kvs (.refl _) hk (by omega)
      | none =>
        refine iteT ?_
        dsimp only [tSeq, tAsg]
        refine later_lc (i0 := 4) (j0 := 1) (jt := 0) W (hm.mono hid_le) (hid_le _ _ ht) ?_ ?_ ?_ fun la H2 nla s2 hla => ?_
        · rfl
        · exact fun _ => rfl
        · exact fun _ => rfl
        have hk2 : KeptAt W.G H2 kd kvs := ⟨s2 _ _ hk.at_, hk.ok⟩
        -- the end: kept[lot] stands
        have fin : ∀ {H5 H6 : Hp} {kvs5 : List (List Key × V)} {σ : L2.St}, σ[0]? = some (some (.ref t)) → σ[2]? = some (some (.ref kd)) → Same (hid [kd] H) (hid [kd] H5) → KeptAt W.G H5 kd kvs5 → kvs5.length + 2 ≤ kvs.length + 6 ^ (d + 1) →
            H6 = upd H5 kd (.dT (putK kvs5 (lk lot) (.int (KM.LV W.G lot)))) → tRet (tDGet (tVar 2) (tVar 0)) { nx := fun _ H' => Q .non H', rt := Q } σ H6 := by
          intro H5 H6 kvs5 σ x0 x2 s5 k5 z5 e6
          subst e6
          have sA : Same (hid [kd] H) (hid [kd] (upd H5 kd (.dT (putK kvs5 (lk lot) (.int (KM.LV W.G lot)))))) := by rw [hid_in (by simp)]; exact s5
          have hk6 := k5.put (lot := lot) rfl
          refine ⟨_, x2, _, x0, kd, .int (KM.LV W.G lot), rfl, ?_, k _ _ sA hk6 (by have := putK_len kvs5 (lk lot) (.int (KM.LV W.G lot)); omega)⟩
          have ev6 : valV (putK kvs5 (lk lot) (.int (KM.LV W.G lot))) (lk lot) = some (.int (KM.LV W.G lot)) := by rw [valV_put, if_pos rfl]
          have g := DGet.t (b := t) (k := lk lot) hk6.at_ (by rw [lk_kV]; exact hid_le _ _ (sA _ _ ht))
          rw [ev6] at g
          exact g
        refine ⟨_, rfl, _, rfl, tD lot, _, dp_t (s2 _ _ (hid_le _ _ ht)), hla.dp, tD_shaped (fun x hx => W.ok x (hl.subset hx)), ll_shaped (fun x hx => ?_) tD_dep, _, rfl, ?_⟩
        · obtain ⟨m, _, rfl⟩ := List.mem_map.mp hx
          exact tD_lay fun y hy => W.ok y ((KM.beh_sub ..).subset hy)
        rw [any_tD]
        by_cases q2 : lot ∈ ms.map fun m => KM.beh hs m lot
        · rw [if_pos q2] at hlv
          refine iteB (decide_eq_true q2) ?_
          refine ⟨_, rfl, _, rfl, kd, _, rfl, DPut.t hk2.at_ (by rw [lk_kV]; exact s2 _ _ (hid_le _ _ ht)) (by rw [sizeLine_eq]; omega), ?_⟩
          refine fin rfl rfl (same_hid s2) hk2 (by omega) ?_
          rw [hlv]
          rfl
        · rw [if_neg q2] at hlv
          refine iteBF (decide_eq_false q2) ?_
          obtain ⟨ps, hp1, hp2⟩ := hla.hid hk2.at_
          have hpl := hp2.length
          have hm5 := W.m5
          have nS : la ∉ [kd] := (hid_at hp1).1
          refine ⟨_, rfl, la, rfl, ⟨_, SqL.of (hid_le _ _ hp1)⟩, ?_⟩
          refine lcd (walk_list (xs := ps.map V.ref)) (by rw [List.length_map]; omega) [kd] (fun _ => true) (fun D i H' => Same (hid [kd] H2) (hid [kd] H') ∧ ∃ kvs', KeptAt W.G H' kd kvs' ∧ kvs'.length + i ≤ kvs.length + i * 6 ^ d) (fun i y H' => ∃ m, ms[i]? = some m ∧ y = .int (KM.LV W.G (KM.beh hs m lot)))
            (fun _ _ _ _ _ h => h) (fun D o hD => ⟨kp_new (.refl _) hD, kvs, ⟨by rw [upd_ne (ne_of_none hk2.at_ hD)]; exact hk2.at_, hk2.ok⟩, by omega⟩) (fun D i H' o hD ⟨a1, kvs', a2, a3⟩ => ⟨kp_mut a1 hD, kvs', ⟨by rw [upd_ne (ne_of_none hk2.at_ hD)]; exact a2.at_, a2.ok⟩, a3⟩)
            (fun D i H' hD hi ⟨a1, _⟩ => SqL.of (hid_le _ _ (a1 _ _ hp1))) ?_ ?_
          · rintro D i y H3 H4 acc hD hi ⟨a1, kvs', a2, a3⟩ hA ⟨rfl, hy⟩ Kt Kf kt kf
            obtain ⟨p, hpi, rfl⟩ := map_at hy
            obtain ⟨m, hmi, hP⟩ := paired_at hp2 hpi
            have hi5 : i < 5 := by rw [List.length_map] at hi; omega
            have hic : i * 6 ^ d ≤ 4 * 6 ^ d := Nat.mul_le_mul_right _ (by omega)
            refine ⟨rfl, tyes ?_⟩
            have gl := KM.grow_lt W.G (at_mem hmi) hl (fun e => q2 (List.mem_map.mpr ⟨m, at_mem hmi, e⟩))
            refine ⟨_, rfl, _, rfl, _, rfl, p, lm, kd, hs, ms, KM.beh hs m lot, kvs', W, rfl, a1 _ _ hP, (hm.mono (same_hid s2)).mono a1, a2, KM.beh_sub .., by omega, by omega, fun H5 kvs5 s5 k5 z5 => ?_⟩
            have nD : D ∉ [kd] := by simpa using (ne_of_none hk2.at_ hD).symm
            refine kt rfl _ _ ⟨Same.trans a1 s5, kvs5, k5, ?_⟩ (kp_at s5 nD hA) (hid_more (fun a ha => List.mem_cons_of_mem _ ha) s5) ⟨m, hmi, rfl⟩
            rw [Nat.add_mul]
            omega
          · intro D H3 ys hD ⟨a1, kvs', a2, a3⟩ hA hpp
            rw [List.length_map, hpl] at hpp a3
            have hy := paired_vals (f := fun m => .int (KM.LV W.G (KM.beh hs m lot))) hpp fun i y m hi ⟨m', h5, h6⟩ => by rw [hi] at h5; cases h5; exact h6
            have mpos : 0 < ms.length := List.length_pos_iff.mpr W.G.ne
            refine ⟨D, ms.map fun m => KM.LV W.G (KM.beh hs m lot), rfl, SqL.of (by rw [hA, hy, List.map_map]; rfl), by rw [List.length_map]; exact mpos, fun mm hmm hle => ?_⟩
            have emm := KM.mx_eq hmm hle
            refine ⟨_, _, rfl, rfl, _, _, rfl, ?_⟩
            have sA : Same (hid [kd] H) (hid [kd] H3) := Same.trans (same_hid s2) a1
            refine ⟨_, rfl, _, rfl, kd, _, rfl, DPut.t a2.at_ (by rw [lk_kV]; exact hid_le _ _ (sA _ _ ht)) ?_, ?_⟩
            · rw [sizeLine_eq]
              have : ms.length * 6 ^ d ≤ 5 * 6 ^ d := Nat.mul_le_mul_right _ hm5
              omega
            · refine fin rfl rfl sA a2 ?_ ?_
              · have : ms.length * 6 ^ d ≤ 5 * 6 ^ d := Nat.mul_le_mul_right _ hm5
                omega
              · rw [hlv, emm]
                refine congrArg (fun z => upd H3 kd (.dT (putK kvs' (lk lot) (.int z)))) ?_
                show (if 1 + KM.mx _ < 10000000000 then 1 + KM.mx _ else 10000000000) = min KM.FE (1 + KM.mx _)
                unfold KM.FE
                split <;> omega
end
end K9

/-! ## K6 -/
set_option maxHeartbeats 2000000
namespace K9
open PySem PySem.Spec PyProof.Rows L2
section
variable {P : Program} {w : World} {K : PySem.W.Frag} {mg : Str → Option Value} {base : Heap}
theorem handB_str {v : V} {hs : List Str} (h : handB v hs = true) : ∃ z, v = .str z ∧ z ∈ hs := by
  cases v with
  | str z =>
    have h' : (nameS z && decide (z ∈ hs)) = true := h
    rw [Bool.and_eq_true, decide_eq_true_eq] at h'
    exact ⟨z, rfl, h'.2⟩
  | _ => cases h
/-! ### told_rounds -/
def tlV (L : Int) : V := if L = KM.FE then .non else .int (L + 1)
theorem sc_told_rounds : FnScope ["world", "hand", "lasting"] ["world", "hand"] (defScope s_told_rounds) := ⟨rfl, rfl, rfl, by decide +kernel, rfl, by decide +kernel, by decide +kernel⟩
def spToldR (C N : Addr) : Sp := fun vs H Q E => ∃ x v n hs ms, ∃ W : Wd hs ms, vs = [.ref x, v] ∧ WorldAt C H x hs ms ∧ Odd H v n ∧ (∀ z, v = .str z → z.length ≤ 1000) ∧ (∀ z, handB v hs = true → v = .str z → ∀ H', Same H H' → Q (tlV (KM.LV W.G [z])) H') ∧
  (handB v hs = false → ∀ d H', Same H H' → H d = none → H' d = some (.xd [(("thing" : Str), v)]) → E (.ref N) (some d) H')
theorem WorldAt.keep {C : Addr} {H : Hp} {x : Addr} {hs : List Str} {ms : List Mp} (h : WorldAt C H x hs ms) : WorldAt C H x hs ms := h
theorem ok_told_rounds (T : Tx K mg) : Ok P w K mg base (L2.CX P w) 7 "told_rounds" ["world", "hand"] (spToldR (He.ga K "Maps") (He.ga K "NoHand")) :=
  ok_of T d_told_rounds (by unfold fn; simp) rfl rfl rfl rfl rfl rfl (by decide +kernel) sc_told_rounds (fun _ _ _ _ _ _ us hl => match us, hl with | [_, _], _ => rfl) (fun vs H Q E ⟨_, _, _, _, _, _, h, _⟩ => by subst h; rfl) (fun f cdv A outer s H vs Q E hr h => by
  obtain ⟨x, v, n, hs, ms, W, rfl, Wx, o, hz, k1, k2⟩ := h
  obtain ⟨fdM, bM, GM⟩ := ok_maps (P := P) (w := w) (base := base) T
  refine ⟨_, (pss_cons (ps_set (i := 2) sc_told_rounds.nd rfl (by first | exact Or.inl rfl | exact Or.inr rfl) (pe_c (ok_ll T 4) (hr.mono (by first | decide | omega)) pass0 (pa_cons (pe_tup (pa_cons (pe_c (ok_checked_hand T) (hr.mono (by first | decide | omega)) (passes_call (takes_of rfl rfl rfl rfl) (fun _ _ _ _ h => h)) (pa_cons (pv 0) (pa_cons (pv 1) pa_nil))) pa_nil)) (pa_cons (pe_meth0 (pv 0) T.cM T.mM GM (hr.mono (by first | decide | omega)) bM .nil pass0) (pa_cons pe_dnewT pa_nil)))))
    (pss_one (ps_ret (pe_ifExp (pt_cmpR op_eq (pv 2) (pg_FOR_EVER T (by rfl)) (nomark _)) pe_non (pe_op op_add (pv 2) pe_int))))), ?_⟩
  refine ⟨_, rfl, _, rfl, x, v, n, hs, ms, rfl, Wx, o, hz, fun hb H1 s1 => ?_, k2⟩
  obtain ⟨z, rfl, hzs⟩ := handB_str hb
  refine ⟨by show 1 ≤ sizeLine; decide, fun t nt => ?_⟩
  have s2 : Same H (upd H1 t (.tup [V.str z])) := s1.trans (same_new nt)
  obtain ⟨dx, lh, lm0, w1, _⟩ := id (Wx.mono s2)
  refine ⟨_, rfl, x, dx, _, rfl, w1, flds_no _ _ (by decide +kernel) (by decide +kernel), x, hs, ms, rfl, Wx.mono s2, W.G.nd, by have := W.h4; omega, by have := W.m5; omega, fun lm H3 nlm s3 hlm => ?_⟩
  intro kd nkd
  have ht3 : StrT H3 t [z] := s3 _ _ upd_same
  refine ⟨t, lm, kd, hs, ms, [z], [], W, rfl, ?_, ?_, ⟨upd_same, fun lot v hl e => by cases e⟩, List.singleton_sublist.mpr hzs, ?_, by decide, fun H4 kvs' s4 k4 z4 => ?_⟩
  · exact hid_of (by simpa using ne_of_none ht3 nkd) ((same_new nkd) _ _ ht3)
  · obtain ⟨ds, e1, e2⟩ := hlm.p
    have hs3 : Same H3 (hid [kd] (upd H3 kd (.dT []))) := fun a u e => hid_of (by simpa using ne_of_none e nkd) ((same_new nkd) _ _ e)
    exact MapsP.mono hs3 ⟨ds, e1, e2⟩
  · have := W.h4
    simp only [List.length_cons, List.length_nil]
    omega
  · have sA : Same H H4 := fun a u e => by
      have e3 := s3 _ _ (s2 _ _ e)
      exact kp_at s4 (by simpa using ne_of_none e3 nkd) ((same_new nkd) _ _ e3)
    have q := k1 z hb rfl H4 sA
    refine ⟨_, rfl, rfl, _, rfl, ?_⟩
    unfold tlV at q
    rw [dec_int]
    by_cases e : KM.LV W.G [z] = KM.FE
    · rw [if_pos e] at q
      refine iteB (by rw [e]; rfl) q
    · rw [if_neg e] at q
      refine iteBF (beq_eq_false_iff_ne.mpr e) ⟨_, rfl, _, _, rfl, rfl, q⟩)
/-! ### late_row -/
theorem sc_late_row : FnScope ["world", "hand", "rounds", "lot", "maps", "kept", "found", "left", "later", "heards", "index", "other"] ["world", "hand", "rounds"] (defScope s_late_row) := ⟨rfl, rfl, rfl, by decide +kernel, rfl, by decide +kernel, by decide +kernel⟩
def rowV (row : List Nat) : List V := row.map fun (i : Nat) => V.int (i : Int)
def spLate (C N M : Addr) : Sp := fun vs H Q E => ∃ x v n rv n2 hs ms, ∃ W : Wd hs ms, vs = [.ref x, v, rv] ∧ WorldAt C H x hs ms ∧ Odd H v n ∧ (∀ z, v = .str z → z.length ≤ 1000) ∧ Odd H rv n2 ∧
  (∀ z (r : Nat), handB v hs = true → v = .str z → rv = .int (r : Int) → r ≤ 10 ∧ (KM.kp hs ms r [z] = false → ∀ H', Same H H' → Q .non H') ∧ (KM.kp hs ms r [z] = true → ∀ p H', Same H H' → H' p = some (.lst (rowV (KM.gr hs ms r [z]))) → Q (.ref p) H')) ∧
  (handB v hs = false → ∀ d H', Same H H' → H d = none → H' d = some (.xd [(("thing" : Str), v)]) → E (.ref N) (some d) H') ∧
  (handB v hs = true → numB rv = false → ∀ d H', Same H H' → H d = none → H' d = some (.xd [(("thing" : Str), rv)]) → E (.ref M) (some d) H')
theorem num_nat {v : V} (h : numB v = true) : ∃ r : Nat, v = .int (r : Int) := by
  cases v with
  | int i =>
    have h' : 0 ≤ i := of_decide_eq_true h
    exact ⟨i.toNat, by rw [Int.toNat_of_nonneg h']⟩
  | _ => cases h
theorem first_ix {hs : List Str} {ms : List Mp} {k : Nat} {lot : List Str} (h : ∃ m ∈ ms, KM.kp hs ms k (KM.beh hs m lot) = true) :
    KM.ix hs ms k lot < ms.length ∧ ((List.range ms.length).filter fun i => KM.kp hs ms k (KM.beh hs (KM.nth ms i) lot)).head? = some (KM.ix hs ms k lot) := by
  have hi : KM.ix hs ms k lot < ms.length := List.findIdx_lt_length_of_exists h
  refine ⟨hi, ?_⟩
  rw [List.head?_filter, List.find?_range_eq_some]
  have en : ∀ i, (h : i < ms.length) → KM.nth ms i = ms[i] := fun i h => by unfold KM.nth; simp [h]
  refine ⟨?_, by simpa using hi, fun j hj => ?_⟩
  · rw [en _ hi]
    exact List.findIdx_getElem (xs := ms) (p := fun m => KM.kp hs ms k (KM.beh hs m lot)) (w := hi)
  · have z := List.not_of_lt_findIdx (xs := ms) (p := fun m => KM.kp hs ms k (KM.beh hs m lot)) hj
    rw [en _ (Nat.lt_trans hj hi)]
    simpa using z
/-- between two turns -/
structure LateInv {hs : List Str} {ms : List Mp} (W : Wd hs ms) (r : Nat) (z : Str) (H0 : Hp) (x lm kd fo : Addr) (v rv : V) (j : Nat) (σ : L2.St) (H : Hp) : Prop where
  ex : ∃ lt lot pre kvs l7 l8, σ = [some (.ref x), some v, some rv, some (.ref lt), some (.ref lm), some (.ref kd), some (.ref fo), l7, l8, none, none, none] ∧ j ≤ r ∧ StrT H lt lot ∧ lot.Sublist hs ∧ KM.kp hs ms (r - j) lot = true ∧
    KM.gr hs ms r [z] = pre ++ KM.gr hs ms (r - j) lot ∧ pre.length = j ∧ H fo = some (.lst (rowV pre)) ∧ KeptAt W.G H kd kvs ∧ kvs.length ≤ 2000 + j * 7000
  same : Same H0 (hid [kd, fo] H)
  lm : MapsP (hid [kd, fo] H) hs lm ms
theorem ok_late_row (T : Tx K mg) : Ok P w K mg base (L2.CX P w) 7 "late_row" ["world", "hand", "rounds"] (spLate (He.ga K "Maps") (He.ga K "NoHand") (He.ga K "BadNumber")) :=
  ok_of T d_late_row (by unfold fn; simp) rfl rfl rfl rfl rfl rfl (by decide +kernel) sc_late_row (fun _ _ _ _ _ _ us hl => match us, hl with | [_, _, _], _ => rfl) (fun vs H Q E ⟨_, _, _, _, _, _, _, _, h, _⟩ => by subst h; rfl) (fun f cdv A outer s H vs Q E hr h => by
  obtain ⟨x, v, n, rv, n2, hs, ms, W, rfl, Wx, o, hz, o2, k1, k2, k3⟩ := h
  obtain ⟨fdM, bM, GM⟩ := ok_maps (P := P) (w := w) (base := base) T
  refine ⟨_, (pss_cons (ps_asg (pe_tup (pa_cons (pe_tup (pa_cons (pe_c (ok_checked_hand T) (hr.mono (by first | decide | omega)) (passes_call (takes_of rfl rfl rfl rfl) (fun _ _ _ _ h => h)) (pa_cons (pv 0) (pa_cons (pv 1) pa_nil))) pa_nil)) (pa_cons (pe_meth0 (pv 0) T.cM T.mM GM (hr.mono (by first | decide | omega)) bM .nil pass0) (pa_cons pe_dnewT pa_nil)))) (pg_tupk K (n := 3) rfl (pgs_cons (pg_name (i := 3) sc_late_row.nd rfl (by first | exact Or.inl rfl | exact Or.inr rfl)) (pgs_cons (pg_name (i := 4) sc_late_row.nd rfl (by first | exact Or.inl rfl | exact Or.inr rfl)) (pgs_cons (pg_name (i := 5) sc_late_row.nd rfl (by first | exact Or.inl rfl | exact Or.inr rfl)) pgs_nil)))))
    (pss_cons (ps_if (pt_cmpR op_lt (pe_c (ok_ll T 4) (hr.mono (by first | decide | omega)) pass0 (pa_cons (pv 3) (pa_cons (pv 4) (pa_cons (pv 5) pa_nil)))) (pe_c (ok_checked_number T) (hr.mono (by first | decide | omega)) (passes_call (takes_of rfl rfl rfl rfl) (fun _ _ _ _ h => h)) (pa_cons (pv 2) pa_nil)) (nomark _)) (pss_one (ps_ret pe_non)) pss_nil)
    (pss_cons (ps_set (i := 6) sc_late_row.nd rfl (by first | exact Or.inl rfl | exact Or.inr rfl) (pe_lst pa_nil))
    (pss_cons (ps_nox (ps_while PassesOwn.never (pt_cmpR op_lt (pe_callB (call_len_seqk K) (by rfl) (T.Z "len") bt_len (pa_cons (pv 6) pa_nil)) (pv 2) (nomark _)) (pss_cons (ps_set (i := 7) sc_late_row.nd rfl (by first | exact Or.inl rfl | exact Or.inr rfl) (pe_op op_sub (pe_op op_sub (pv 2) (pe_callB (call_len_seqk K) (by rfl) (T.Z "len") bt_len (pa_cons (pv 6) pa_nil))) pe_int))
      (pss_cons (ps_setLc (i := 8) (own := [("heards", 9)])  rfl sc_late_row.nd rfl rfl (sw_true rfl rfl rfl (by decide +kernel)) (pi_listk K (pv 4)) (blkOk_by (by kernel_rfl)) (fun _ _ _ _ _ => (pg_name (i := 9) sc_late_row.nd rfl (by first | exact Or.inl rfl | exact Or.inr rfl))) (fun _ _ _ _ _ => pts_nil) (fun _ _ _ _ _ => (pe_c (ok_told_on T) (hr.mono (by first | decide | omega)) pass0 (pa_cons (pv 9) (pa_cons (pv 3) pa_nil)))))
      (pss_cons (ps_expr (pe_bmk K PySem.F.plainAttrs_list PySem.F.slot_list_append PySem.F.type_list_append mt_append (pv 6) (pa_cons (pe_ix (ix_listk K) (pe_lc (own := [("index", 10), ("other", 11)])  rfl sc_late_row.nd (pi_enumk K rfl (T.Z "enumerate") (pa_cons (pv 8) pa_nil)) (blkOk_by (by kernel_rfl)) (fun _ _ _ _ _ => (pg_tupk K (n := 2) rfl (pgs_cons (pg_name (i := 10) sc_late_row.nd rfl (by first | exact Or.inl rfl | exact Or.inr rfl)) (pgs_cons (pg_name (i := 11) sc_late_row.nd rfl (by first | exact Or.inl rfl | exact Or.inr rfl)) pgs_nil)))) (fun _ _ _ _ _ => (pts_one (pt_cmpR op_ge (pe_c (ok_ll T 4) (hr.mono (by first | decide | omega)) pass0 (pa_cons (pv 11) (pa_cons (pv 4) (pa_cons (pv 5) pa_nil)))) (pv 7) (nomark _)))) (fun _ _ _ _ _ => (pv 10))) pe_int (fun _ _ => rfl)) pa_nil)))
      (pss_one (ps_set (i := 3) sc_late_row.nd rfl (by first | exact Or.inl rfl | exact Or.inr rfl) (pe_ix (ix_listk K) (pv 8) (pe_ix (ix_listk K) (pv 6) (pe_un un_neg pe_int) (fun _ _ => rfl)) (fun _ _ => rfl)))))))))
    (pss_one (ps_ret (pv 6))))))), ?_⟩
  refine ⟨_, rfl, _, rfl, x, v, n, hs, ms, rfl, Wx, o, hz, fun hb H1 s1 => ?_, k2⟩
  obtain ⟨z, rfl, hzs⟩ := handB_str hb
  refine ⟨by show 1 ≤ sizeLine; decide, fun t nt => ?_⟩
  have s2 : Same H (upd H1 t (.tup [V.str z])) := s1.trans (same_new nt)
  obtain ⟨dx, lh, lm0, w1, _⟩ := id (Wx.mono s2)
  refine ⟨_, rfl, x, dx, _, rfl, w1, flds_no _ _ (by decide +kernel) (by decide +kernel), x, hs, ms, rfl, Wx.mono s2, W.G.nd, by have := W.h4; omega, by have := W.m5; omega, fun lm H3 nlm s3 hlm => ?_⟩
  intro kd nkd
  have ht3 : StrT H3 t [z] := s3 _ _ upd_same
  have sK : Same H3 (hid [kd] (upd H3 kd (.dT []))) := fun a u e => hid_of (by simpa using ne_of_none e nkd) ((same_new nkd) _ _ e)
  refine ⟨by show 3 ≤ sizeLine; decide, fun tt ntt => ?_⟩
  generalize hH4 : upd (upd H3 kd (.dT [])) tt (.tup [V.ref t, V.ref lm, V.ref kd]) = H4
  have kd4 : H4 kd = some (.dT []) := by
    rw [← hH4, upd_ne (ne_of_none upd_same ntt)]
    exact upd_same
  have s34 : Same H3 (hid [kd] H4) := fun a u e => by
    have e2 := sK a u e
    refine hid_of (hid_at e2).1 ?_
    rw [← hH4]
    exact same_new ntt _ _ (hid_at e2).2
  refine ⟨tt, _, rfl, SqT.of (by rw [← hH4]; exact upd_same), rfl, _, _, rfl, _, _, rfl, _, _, rfl, rfl, ?_⟩
  have sH4 : Same H (hid [kd] H4) := (s2.trans s3).trans s34
  have hhs4 := W.h4
  have hms5 := W.m5
  have hzl : [z].Sublist hs := List.singleton_sublist.mpr hzs
  refine ⟨_, rfl, _, rfl, _, rfl, t, lm, kd, hs, ms, [z], [], W, rfl, s34 _ _ ht3, (hlm.p).mono s34, ⟨kd4, fun lot v hl e => by cases e⟩, hzl, ?_, by decide, fun H5 kvs5 s5 kk5 z5 => ?_⟩
  · simp only [List.length_cons, List.length_nil]
    omega
  have sH5 : Same H (hid [kd] H5) := Same.trans sH4 s5
  refine ⟨_, rfl, rv, n2, rfl, o2.mono (Same.trans sH5 hid_le), fun hnum => ?_, fun hnum d H' sd nd hd => ?_⟩
  · obtain ⟨r, rfl⟩ := num_nat hnum
    obtain ⟨hr10, q1, q2⟩ := k1 z r hb rfl rfl
    have hkp := KM.LV_keep W.G hzl r (by unfold KM.FE; omega)
    refine ⟨_, _, rfl, rfl, _, rfl, ?_⟩
    by_cases c : KM.LV W.G [z] < (r : Int)
    · refine iteB (decide_eq_true c) ?_
      refine q1 ?_ _ (Same.trans sH5 hid_le)
      cases e : KM.kp hs ms r [z] with
      | false => rfl
      | true => exact absurd (hkp.mpr e) (by omega)
    · refine iteBF (decide_eq_false c) ?_
      have hk : KM.kp hs ms r [z] = true := hkp.mp (by omega)
      refine ⟨Nat.zero_le _, fun fo nfo => ?_⟩
      have nfk : fo ≠ kd := (ne_of_none kk5.at_ nfo).symm
      have sub5 : Same (hid [kd] H5) (hid [kd, fo] (upd H5 fo (.lst []))) := fun a u e => by
        have e2 := hid_at e
        refine hid_of ?_ (same_new nfo _ _ e2.2)
        have := ne_of_none e2.2 nfo
        have h1 := e2.1
        simp only [List.mem_cons, List.not_mem_nil, or_false] at h1 ⊢
        exact fun q => q.elim h1 this
      refine ⟨fun m σ H' => ∃ j, m = r - j ∧ LateInv W r z H x lm kd fo (.str z) (.int (r : Int)) j σ H', ⟨r - 0, 0, rfl, ⟨⟨t, [z], [], kvs5, none, none, rfl, Nat.zero_le _, ?_, hzl, hk, rfl, rfl, upd_same, ⟨?_, kk5.ok⟩, ?_⟩, Same.trans sH5 sub5, ((hlm.p).mono (Same.trans s34 s5)).mono sub5⟩⟩, ?_⟩
      · exact hid_le _ _ (sub5 _ _ (s5 _ _ (s34 _ _ ht3)))
      · rw [upd_ne nfk.symm]
        exact kk5.at_
      · simp only [List.length_nil] at z5
        omega
      · rintro m σ H6 ⟨j, rfl, ⟨⟨lt, lot, pre, kvs6, l7, l8, rfl, hj, hlt, hll, hkp6, hgr, hpre, hfo, kk6, z6⟩, s6, hlm6⟩⟩
        have hrl : (rowV pre).length = j := by unfold rowV; rw [List.length_map, hpre]
        refine ⟨_, rfl, fo, _, rfl, .inl (SqL.of hfo), _, rfl, _, _, rfl, rfl, _, rfl, ?_⟩
        rw [hrl]
        by_cases hjr : j < r
        · obtain ⟨k, hk1⟩ : ∃ k, r - j = k + 1 := ⟨r - j - 1, by omega⟩
          rw [hk1] at hkp6 hgr
          obtain ⟨_, hex⟩ := KM.kp_succ.mp hkp6
          obtain ⟨hix, hhead⟩ := first_ix hex
          have enth : ∀ i, (h : i < ms.length) → KM.nth ms i = ms[i] := fun i h => by unfold KM.nth; simp [h]
          refine iteB (decide_eq_true (by omega)) ⟨fun σ' H' => LateInv W r z H x lm kd fo (.str z) (.int (r : Int)) (j + 1) σ' H', fun σ' H' h => ⟨r - (j + 1), by omega, j + 1, rfl, h⟩, ?_⟩
          refine ⟨_, rfl, _, rfl, fo, _, rfl, .inl (SqL.of hfo), _, _, rfl, rfl, _, _, rfl, rfl, ?_⟩
          dsimp only [tSeq, tAsg, gName]
          rw [hrl, show (r : Int) - (j : Nat) - 1 = (k : Nat) by omega]
          refine later_lc (i0 := 9) (j0 := 4) (jt := 3) W (hlm6.mono hid_le) hlt ?_ ?_ ?_ fun la H7 nla s7 hla => ?_
          · rfl
          · exact fun _ => rfl
          · exact fun _ => rfl
          have kk7 : KeptAt W.G H7 kd kvs6 := ⟨s7 _ _ kk6.at_, kk6.ok⟩
          have hfo7 := s7 _ _ hfo
          obtain ⟨ps, hp1, hp2⟩ := hla.hid kk7.at_
          have hpl := hp2.length
          have nfk2 : fo ∉ [kd] := by simpa using nfk
          refine ⟨_, rfl, .inl ⟨rfl, _, SqL.of hfo7⟩, _, rfl, la, _, rfl, SqL.of (hid_le _ _ hp1), ?_⟩
          refine lcd (walk_enum (xs := ps.map V.ref)) (by rw [List.length_map]; omega) [kd] (fun i => KM.kp hs ms k (KM.beh hs (KM.nth ms i) lot)) (fun D i H' => Same (hid [kd] H7) (hid [kd] H') ∧ ∃ kvs', KeptAt W.G H' kd kvs' ∧ kvs'.length ≤ kvs6.length + i * 1296) (fun i y H' => y = .int (i : Int))
            (fun _ _ _ _ _ h => h) (fun D o hD => ⟨kp_new (.refl _) hD, kvs6, ⟨by rw [upd_ne (ne_of_none kk7.at_ hD)]; exact kk7.at_, kk7.ok⟩, by omega⟩) (fun D i H' o hD ⟨a1, kvs', a2, a3⟩ => ⟨kp_mut a1 hD, kvs', ⟨by rw [upd_ne (ne_of_none kk7.at_ hD)]; exact a2.at_, a2.ok⟩, a3⟩)
            (fun D i H' hD hi ⟨a1, _⟩ => SqL.of (hid_le _ _ (a1 _ _ hp1))) ?_ ?_
          · rintro D i y H8 H9 acc hD hi ⟨a1, kvs', a2, a3⟩ hA ⟨Tt, x1, x2, rfl, nT, rfl, e1, e2⟩ Kt Kf kt kf
            obtain ⟨p, hpi, rfl⟩ := map_at e2
            obtain rfl : V.int (i : Nat) = x1 := Option.some.inj e1
            obtain ⟨m, hmi, hP⟩ := paired_at hp2 hpi
            have hi5 : i < 5 := by rw [List.length_map] at hi; omega
            have himl := at_lt hmi
            have em : KM.nth ms i = m := by rw [enth i himl]; exact (List.getElem?_eq_some_iff.mp hmi).2
            rw [em] at kt kf
            have sT : Same (hid [kd] H8) (hid [kd] (upd H8 Tt (.tup [.int (i : Nat), .ref p]))) := same_hid (same_new nT)
            have a2' : KeptAt W.G (upd H8 Tt (.tup [.int (i : Nat), .ref p])) kd kvs' := ⟨by rw [upd_ne (ne_of_none a2.at_ nT)]; exact a2.at_, a2.ok⟩
            refine ⟨Tt, _, rfl, SqT.of upd_same, rfl, _, _, rfl, _, _, rfl, rfl, rfl, ?_⟩
            refine ⟨_, rfl, _, rfl, _, rfl, p, lm, kd, hs, ms, KM.beh hs m lot, kvs', W, rfl, sT _ _ (a1 _ _ hP), ?_, a2', KM.beh_sub .., by omega, by omega, fun H10 kvs10 s10 k10 z10 => ?_⟩
            · have h0 := hlm6.mono (hid_sub (S := [kd]) (T := [kd, fo]) (fun a ha => by simp at ha ⊢; exact .inl ha))
              exact ((h0.mono (same_hid s7)).mono a1).mono sT
            · refine ⟨_, rfl, _, _, rfl, rfl, _, rfl, ?_⟩
              have sA : Same (hid [kd] H8) (hid [kd] H10) := Same.trans sT s10
              have nD : D ∉ [kd] := by simpa using (ne_of_none kk7.at_ hD).symm
              have hLV := KM.LV_keep W.G (KM.beh_sub hs m lot) k (by unfold KM.FE; omega)
              have nI : Same (hid [kd] H7) (hid [kd] H10) ∧ ∃ kvs', KeptAt W.G H10 kd kvs' ∧ kvs'.length ≤ kvs6.length + (i + 1) * 1296 := ⟨Same.trans a1 sA, kvs10, k10, by omega⟩
              by_cases c2 : (k : Int) ≤ KM.LV W.G (KM.beh hs m lot)
              · exact iteB (decide_eq_true c2) ⟨_, rfl, kt (hLV.mp c2) _ _ nI (kp_at sA nD hA) (hid_more (fun a ha => List.mem_cons_of_mem _ ha) sA) rfl⟩
              · refine iteBF (decide_eq_false c2) (kf ?_ _ nI (kp_at sA nD hA) (hid_more (fun a ha => List.mem_cons_of_mem _ ha) sA))
                cases e : KM.kp hs ms k (KM.beh hs m lot) with
                | false => rfl
                | true => exact absurd (hLV.mpr e) c2
          · intro D H8 ys hD ⟨a1, kvs', a2, a3⟩ hA hpp
            rw [List.length_map, hpl] at hpp a3
            have hy : ys[0]? = some (.int (KM.ix hs ms k lot : Nat)) := by
              have h0 : ((List.range ms.length).filter fun i => KM.kp hs ms k (KM.beh hs (KM.nth ms i) lot))[0]? = some (KM.ix hs ms k lot) := by
                rw [← List.head?_eq_getElem?]
                exact hhead
              obtain ⟨y, h1, h2⟩ := paired_at hpp h0
              rw [h1, h2]
            have sA : Same (hid [kd] H6) (hid [kd] H8) := Same.trans (same_hid s7) a1
            have hfo8 : H8 fo = some (.lst (rowV pre)) := kp_at sA nfk2 hfo
            refine ⟨D, _, 0, _, rfl, rfl, SqL.of hA, atI_nat hy, fo, _, _, rfl, rfl, hfo8, ?_, ?_⟩
            · rw [hrl]
              exact small1000 (by omega)
            · have hps : ps[KM.ix hs ms k lot]? = some (ps[KM.ix hs ms k lot]'(by omega)) := List.getElem?_eq_getElem _
              obtain ⟨m, hmi, hP⟩ := paired_at hp2 hps
              have em : KM.nth ms (KM.ix hs ms k lot) = m := by rw [enth _ hix]; exact (List.getElem?_eq_some_iff.mp hmi).2
              have nla2 : la ≠ fo := (ne_of_none hfo nla).symm
              have hla8 : H8 la = some (.lst (ps.map V.ref)) := hid_le _ _ (a1 _ _ hp1)
              have erow : rowV pre ++ [V.int (KM.ix hs ms k lot : Nat)] = rowV (pre ++ [KM.ix hs ms k lot]) := by unfold rowV; rw [List.map_append]; rfl
              rw [erow]
              have sF : Same (hid [kd, fo] H6) (hid [kd, fo] (upd H8 fo (.lst (rowV (pre ++ [KM.ix hs ms k lot]))))) := by
                rw [hid_in (by simp)]
                exact hid_more (fun a ha => by simp at ha ⊢; exact .inl ha) sA
              refine ⟨_, rfl, _, rfl, 1, rfl, fo, _, _, _, rfl, rfl, SqL.of upd_same, (by rw [← erow]; exact atI_last _ _), la, _, _, _, rfl, rfl, SqL.of (by rw [upd_ne nla2]; exact hla8), atI_nat (map_get hps), ?_⟩
              refine ⟨⟨ps[KM.ix hs ms k lot]'(by omega), KM.beh hs m lot, pre ++ [KM.ix hs ms k lot], kvs', _, _, rfl, hjr, ?_, KM.beh_sub .., ?_, ?_, ?_, upd_same, ⟨?_, a2.ok⟩, ?_⟩, Same.trans s6 sF, hlm6.mono sF⟩
              · have h9 := hid_le _ _ (a1 _ _ hP)
                have n9 : ps[KM.ix hs ms k lot]'(by omega) ≠ fo := ne_of h9 hfo8 (fun z => by cases z)
                show upd H8 fo _ _ = _
                rw [upd_ne n9]
                exact h9
              · have e2 : r - (j + 1) = k := by omega
                rw [e2, ← em]
                have z := List.findIdx_getElem (xs := ms) (p := fun m => KM.kp hs ms k (KM.beh hs m lot)) (w := hix)
                rw [enth _ hix]
                exact z
              · have e2 : r - (j + 1) = k := by omega
                rw [e2, hgr, List.append_assoc, ← em]
                rfl
              · rw [List.length_append, hpre]
                rfl
              · rw [upd_ne nfk.symm]
                exact a2.at_
              · have : ms.length * 1296 ≤ 5 * 1296 := Nat.mul_le_mul_right _ hms5
                omega
        · refine iteBF (decide_eq_false (by omega)) ⟨_, rfl, ?_⟩
          have ej : r - j = 0 := by omega
          rw [ej] at hgr
          have e3 : KM.gr hs ms r [z] = pre := by rw [hgr]; exact List.append_nil _
          refine q2 hk fo _ (Same.trans s6 hid_le) ?_
          rw [e3]
          exact hfo
  · refine k3 hb hnum d H' ((Same.trans sH5 hid_le).trans sd) ?_ hd
    exact (Same.trans sH5 hid_le).free nd)
end
end K9

/-! ## KIn -/
set_option maxHeartbeats 1000000
/-! a dict in a list of dicts (values lists of texts) -/
namespace PySem.SeqAt
open AutoSeq1 (wpAny_loadPart')
open MeetsSeq MeetsSeq2 MeetsSeq3 SeqRoads2
section
variable {prog : Program} {w : World}
/-- the loop from its turn i, rest being what is still to be looked at -/
theorem k9_rest (l : Addr) (its : Array Value) (c : Nat) (od : Option Addr) (osl : Array (Option Value)) (x : Value) (e : Value → Bool) : ∀ (rest : List Value) (i : Nat), its.toList.drop i = rest →
    MeetsIn prog w (Builtin.«list.__contains__.loop» ⟨[.ref l, x, rawInt i], []⟩) fun A R s =>
      s.heap.get? l = some { cls := .type "list", dict := od, data := .seq its c, slots := osl } ∧ (∀ y, y ∈ its → EqP prog w A.in1 s y x (e y)) ∧ R (.ok (.ret (.bool (rest.any e)))) s
  | [], i, out, A, R, ⟨hp, gs, dr, tk, os⟩, ⟨there, eqs, aim⟩ => by
    wp_walk using wpAny_loadPart' there
    have far : its.size ≤ i := by simpa using List.drop_eq_nil_iff.mp out
    rw [show its[((i : Nat) : Int).toNat]? = none from by simp; omega]
    wp_walk
    exact aim
  | y :: rest, i, out, A, R, ⟨hp, gs, dr, tk, os⟩, ⟨there, eqs, aim⟩ => by
    have near : i < its.size := by
      by_cases z : i < its.size
      · exact z
      · rw [List.drop_eq_nil_iff.mpr (by simpa using z)] at out
        cases out
    have both : its[i] = y ∧ its.toList.drop (i + 1) = rest := by
      have z := List.drop_eq_getElem_cons (l := its.toList) (i := i) (by simpa using near)
      rw [out] at z
      injection z with z1 z2
      exact ⟨by simpa using z1.symm, z2.symm⟩
    wp_walk using wpAny_loadPart' there
    rw [show its[((i : Nat) : Int).toNat]? = some y from by simp [near, both.1]]
    refine wpAny_bind (eqs y (both.1 ▸ Array.getElem_mem near) _ _ ?_)
    rw [List.any_cons] at aim
    cases ey : e y with
    | true =>
      rw [ey, Bool.true_or] at aim
      wp_walk
      exact aim
    | false =>
      rw [ey, Bool.false_or] at aim
      wp_walk
      rw [show ((i : Int) + 1) = ((i + 1 : Nat) : Int) from rfl]
      have again := k9_rest l its c od osl x e rest (i + 1) both.2
      exact ⟨plainId_quiet plain_contains_loop _, codeAny_builtin entry_contains_loop ((Around.under_plainId plain_contains_loop _).symm ▸ again A R _ ⟨there, eqs, aim⟩)⟩
theorem k9_whole (l : Addr) (its : Array Value) (c : Nat) (od : Option Addr) (osl : Array (Option Value)) (x : Value) (e : Value → Bool) :
    MeetsIn prog w (Builtin.«list.__contains__» ⟨[.ref l, x], []⟩) fun A R s =>
      s.heap.get? l = some { cls := .type "list", dict := od, data := .seq its c, slots := osl } ∧ (∀ y, y ∈ its → EqP prog w A.in1 s y x (e y)) ∧ R (.ok (.ret (.bool (its.any e)))) s := by
  rintro A R ⟨hp, gs, dr, tk, os⟩ ⟨there, eqs, aim⟩
  wp_walk using wpAny_loadPart' there
  have all := k9_rest (prog := prog) (w := w) l its c od osl x e its.toList 0 rfl
  exact ⟨plainId_quiet plain_contains_loop _, codeAny_builtin entry_contains_loop ((Around.under_plainId plain_contains_loop _).symm ▸ all A R _ ⟨there, eqs, by simpa using aim⟩)⟩
variable {A : Around} {E : Value → Shared → Prop} {s : Shared}
/-- x in a list whose items are each compared with x -/
theorem k9_has {l : Addr} {its : Array Value} {x : Value} {Q : Bool → Shared → Prop} (e : Value → Bool) (isl : s.heap.IsList l its) (eqs : ∀ y, y ∈ its → EqP prog w A.in1 s y x (e y)) (aim : Q (its.any e) s) :
    wpAny (model prog w) A (contains (.ref l) x) Q E s := by
  obtain ⟨⟨k1, od, k2, osl⟩, there, rfl, c, rfl⟩ := isl
  refine wpAny_contains_slot ⟨_, there, rfl⟩ F.slot_list_contains (wpAny_mono (call_meetsIn (Q := fun v t => ∃ b, v = .bool b ∧ Q b t) F.slot_list_contains ⟨_, there, rfl⟩ F.entry_list_contains (F.args_list_contains_2 _ _) (k9_whole l its c od osl x e) ⟨there, eqs, _, rfl, aim⟩) ?_ fun _ _ z => z)
  rintro _ t ⟨b, rfl, z⟩
  exact wpAny_truthy_bool z
theorem k9_in {l : Addr} {its : Array Value} {x : Value} {Q : Value → Shared → Prop} (e : Value → Bool) (isl : s.heap.IsList l its) (eqs : ∀ y, y ∈ its → EqP prog w A.in1 s y x (e y)) (aim : Q (.bool (its.any e)) s) :
    wpAny (model prog w) A (compareOp .In x (.ref l)) Q E s := wpAny_bind (k9_has e isl eqs (wpAny_pure aim))
theorem k9_notIn {l : Addr} {its : Array Value} {x : Value} {Q : Value → Shared → Prop} (e : Value → Bool) (isl : s.heap.IsList l its) (eqs : ∀ y, y ∈ its → EqP prog w A.in1 s y x (e y)) (aim : Q (.bool (!its.any e)) s) :
    wpAny (model prog w) A (compareOp .NotIn x (.ref l)) Q E s := wpAny_bind (k9_has e isl eqs (wpAny_pure aim))
end
end PySem.SeqAt
namespace K9
open PySem PySem.Spec PyProof.Rows L2
/-- the same lists at the same hands -/
def eqM (hs : List Str) (m m' : Mp) : Bool := hs.all fun k => decide (m k = m' k)
section
variable {X : Cx} {pins : List (Addr × Obj)} {σ : L2.St} {H : Hp} {s : Shared}
theorem hits_m (I : Inv X pins σ H s) {A : Around} (hu : A.units + 64 < cLine) {hs : List Str} {m m' : Mp} {ad bd : Str → Addr} {vb : List (Key × Value)} (rb : KV (mkv hs bd) vb)
    (ha : ∀ k ∈ hs, Strs H (ad k) (m k)) (hb : ∀ k ∈ hs, Strs H (bd k) (m' k)) (oa : ∀ k ∈ hs, SO (m k)) (ob : ∀ k ∈ hs, SO (m' k)) :
    ∀ {ks : List Str} {va : List (Key × Value)}, (∀ k ∈ ks, k ∈ hs) → KV (mkv ks ad) va → PySem.W.KeqHitsP X.prog X.w A s vb va (eqM ks m m')
  | [], va, _, r => by
    cases r
    exact .nil
  | k :: ks, va, hk, r => by
    cases r with
    | @cons p q ps qs h t =>
      obtain ⟨h1, h2⟩ := h
      have kin := hk k List.mem_cons_self
      have rr : RelO (some (V.ref (bd k))) (valueAt vb (Sum.inr k : Key)) := by
        have := rb.val (Sum.inr k : Key)
        rw [valV_mkv kin] at this
        exact this
      obtain ⟨y, hy, ry⟩ := rr.some_of
      obtain ⟨key, v⟩ := q
      have h1' : (Sum.inr k : Key) = key := h1
      subst h1'
      obtain ⟨as, r1⟩ := Dp.reads I (lD (m k)) (.ref (ad k)) v (dp_l (ha k kin)) h2
      obtain ⟨bs, r2⟩ := Dp.reads I (lD (m' k)) (.ref (bd k)) y (dp_l (hb k kin)) ry
      have e1 : SeqAt.EqP X.prog X.w A s v y (PyData.eqv (lD (m k)) (lD (m' k))) := SeqAt.EqAt.eqP (SeqAt.eqAt_reads _ _ A s v y as bs r1 r2 (lD_lay (oa k kin)) (lD_lay (ob k kin)) (by have := lD_dep (m k); omega))
      rw [eqv_lD] at e1
      exact .hit hy e1 (hits_m I hu rb ha hb oa ob (fun j hj => hk j (List.mem_cons_of_mem _ hj)) t)
theorem eqP_maps (I : Inv X pins σ H s) {A : Around} (hu : A.units + 66 < cLine) {hs : List Str} {m m' : Mp} {a b : Addr} (ha : MapA H hs a m) (hb : MapA H hs b m') (oa : ∀ k ∈ hs, SO (m k)) (ob : ∀ k ∈ hs, SO (m' k)) :
    SeqAt.EqP X.prog X.w A s (.ref a) (.ref b) (eqM hs m m') := by
  obtain ⟨ad, a1, a2⟩ := ha
  obtain ⟨bd, b1, b2⟩ := hb
  by_cases e : a = b
  · subst e
    rw [a1] at b1
    have ekv : mkv hs ad = mkv hs bd := HO.dK.inj (Option.some.inj b1)
    have ek : ∀ k ∈ hs, ad k = bd k := fun k hk => by
      have h1 := valV_mkv (ad := ad) hk
      rw [ekv, valV_mkv hk] at h1
      exact (V.ref.inj (Option.some.inj h1)).symm
    have et : eqM hs m m' = true := by
      unfold eqM
      rw [List.all_eq_true]
      intro k hk
      have h1 : H (ad k) = some (.lst ((m k).map V.str)) := a2 k hk
      have h2 : H (bd k) = some (.lst ((m' k).map V.str)) := b2 k hk
      rw [ek k hk, h2] at h1
      have h2 := HO.lst.inj (Option.some.inj h1)
      refine decide_eq_true ?_
      have inj : ∀ {x y : List Str}, x.map V.str = y.map V.str → x = y := fun {x y} h => by
        apply List.map_inj_right (f := V.str) (fun a b e => V.str.inj e) |>.mp h
      exact (inj h2).symm
    rw [et]
    exact (SeqAt.EqAt.same _).eqP
  · refine SeqAt.eqP_refs e fun E Q q => ?_
    obtain ⟨_, ya, va, ra, da⟩ := (show ObjOk X.prog X.w H s.heap a (.dK (mkv hs ad)) from I.hok a _ a1)
    obtain ⟨_, yb, vb, rb, db⟩ := (show ObjOk X.prog X.w H s.heap b (.dK (mkv hs bd)) from I.hok b _ b1)
    refine PySem.W.rcP_dicts (knd := mixKind X.prog X.w) (r := eqM hs m m') ya yb da db (by omega) (fun _ => hits_m I (A := A.in1) (by show A.units + 1 + 64 < cLine; omega) rb a2 b2 oa ob (fun _ h => h) ra) E Q ?_
    have el : va.length = vb.length := by rw [← ra.length, ← rb.length, mkv_len, mkv_len]
    rw [show (va.length == vb.length && eqM hs m m') = eqM hs m m' by rw [el]; simp]
    exact q
end
def rInM (neg : Bool) : R2 := fun x y H Q => ∃ (hs : List Str) (d l : Addr) (m : Mp) (ms : List Mp), x = .ref d ∧ y = .ref l ∧ MapA H hs d m ∧ MapsA H hs l ms ∧ (∀ k ∈ hs, SO (m k)) ∧ (∀ m' ∈ ms, ∀ k ∈ hs, SO (m' k)) ∧
  Q (.bl (if neg then !ms.any (fun m' => eqM hs m' m) else ms.any (fun m' => eqM hs m' m))) H
section
variable {X : Cx}
theorem items_m {pins : List (Addr × Obj)} {σ : L2.St} {H : Hp} {s : Shared} (I : Inv X pins σ H s) {A : Around} (hu : A.units + 66 < cLine) {hs : List Str} {d : Addr} {m : Mp} (hd : MapA H hs d m) (om : ∀ k ∈ hs, SO (m k)) :
    ∀ {ds : List Addr} {ms : List Mp} {us : List Value}, Paired (MapA H hs) ds ms → (∀ m' ∈ ms, ∀ k ∈ hs, SO (m' k)) → Vals (ds.map V.ref) us → ∃ e : Value → Bool, (∀ y ∈ us, SeqAt.EqP X.prog X.w A s y (.ref d) (e y)) ∧ us.any e = ms.any (fun m' => eqM hs m' m) := by
  have key : ∀ (ds : List Addr) (ms : List Mp), Paired (MapA H hs) ds ms → (∀ m' ∈ ms, ∀ k ∈ hs, SO (m' k)) → ∀ a ∈ ds, ∃ b, SeqAt.EqP X.prog X.w A s (.ref a) (.ref d) b ∧ ∀ m', MapA H hs a m' → (∀ k ∈ hs, SO (m' k)) → b = eqM hs m' m := by
    intro ds ms hp ho a ha
    obtain ⟨i, hi, e⟩ := List.mem_iff_getElem.mp ha
    obtain ⟨m', hm', hA⟩ := paired_at hp (show ds[i]? = some a by rw [← e]; exact List.getElem?_eq_getElem hi)
    refine ⟨eqM hs m' m, eqP_maps I hu hA hd (ho m' (at_mem hm')) om, fun m2 h2 o2 => ?_⟩
    obtain ⟨ad, a1, a2⟩ := hA
    obtain ⟨bd, b1, b2⟩ := h2
    rw [a1] at b1
    have ekv : mkv hs ad = mkv hs bd := HO.dK.inj (Option.some.inj b1)
    unfold eqM
    rw [Bool.eq_iff_iff, List.all_eq_true, List.all_eq_true]
    have eq : ∀ k ∈ hs, m' k = m2 k := fun k hk => by
      have h1 := valV_mkv (ad := ad) hk
      rw [ekv, valV_mkv hk] at h1
      have ek : bd k = ad k := V.ref.inj (Option.some.inj h1)
      have h1 : H (ad k) = some (.lst ((m' k).map V.str)) := a2 k hk
      have h2 : H (bd k) = some (.lst ((m2 k).map V.str)) := b2 k hk
      rw [← ek, h2] at h1
      exact ((List.map_inj_right (f := V.str) (fun a b e => V.str.inj e)).mp (HO.lst.inj (Option.some.inj h1))).symm
    exact ⟨fun h k hk => by rw [← eq k hk]; exact h k hk, fun h k hk => by rw [eq k hk]; exact h k hk⟩
  intro ds ms us hp ho hv
  classical
  refine ⟨fun v => match v with | .ref a => (if h : a ∈ ds then Classical.choose (key ds ms hp ho a h) else false) | _ => false, ?_, ?_⟩
  · intro y hy
    obtain ⟨i, hi, e⟩ := List.mem_iff_getElem.mp hy
    have hl := hv.length
    rw [List.length_map] at hl
    have hds : (ds.map V.ref)[i]? = some (.ref (ds[i]'(by omega))) := map_get (List.getElem?_eq_getElem _)
    obtain ⟨u, h1, h2⟩ := Vals.get hv hds
    have eu : u = y := by
      rw [List.getElem?_eq_getElem hi, e] at h1
      exact (Option.some.inj h1).symm
    subst eu
    cases (show u = Value.ref (ds[i]'(by omega)) from h2)
    have hmem : ds[i]'(by omega) ∈ ds := List.getElem_mem _
    show SeqAt.EqP _ _ _ _ _ _ (if h : ds[i]'(by omega) ∈ ds then Classical.choose (key ds ms hp ho _ h) else false)
    rw [dif_pos hmem]
    exact (Classical.choose_spec (key ds ms hp ho _ hmem)).1
  · have gen : ∀ (ds' : List Addr) (ms' : List Mp) (us' : List Value), (∀ a ∈ ds', a ∈ ds) → (∀ m' ∈ ms', m' ∈ ms) → Paired (MapA H hs) ds' ms' → Vals (ds'.map V.ref) us' → us'.any (fun v => match v with | .ref a => (if h : a ∈ ds then Classical.choose (key ds ms hp ho a h) else false) | _ => false) = ms'.any (fun m' => eqM hs m' m) := by
      intro ds' ms' us' hd' hm' p
      induction p generalizing us' with
      | nil => intro r; cases r; rfl
      | @cons a m1 l1 l2 r t ih =>
        intro rv
        cases rv with
        | @cons _ u _ ur r1 r2 =>
          cases (show u = Value.ref a from r1)
          rw [List.any_cons, List.any_cons, ih ur (fun b hb => hd' b (List.mem_cons_of_mem _ hb)) (fun b hb => hm' b (List.mem_cons_of_mem _ hb)) r2]
          refine congrArg (· || _) ?_
          have hmem := hd' a List.mem_cons_self
          show (if h : a ∈ ds then Classical.choose (key ds ms hp ho a h) else false) = _
          rw [dif_pos hmem]
          exact (Classical.choose_spec (key ds ms hp ho a hmem)).2 m1 r (ho m1 (hm' m1 List.mem_cons_self))
    exact gen ds ms us (fun _ h => h) (fun _ h => h) hp hv
theorem op_inM (hu : X.A.units + 70 < cLine) : OpR X (compareOp .In) (rInM false) := by
  intro pins s σ H x y v u Q I rx ry h
  obtain ⟨hs, d, l, m, ms, rfl, rfl, hd, ⟨ds, hl, hp⟩, o1, o2, q⟩ := h
  obtain rfl : v = Value.ref d := rx
  obtain rfl : u = Value.ref l := ry
  obtain ⟨its, r, pl, hz⟩ := I.list (SqL.of hl)
  obtain ⟨e, h1, h2⟩ := items_m I (A := X.A.in1) (by show X.A.units + 1 + 66 < cLine; omega) hd o1 hp o2 r
  refine SeqAt.k9_in e pl.isList (fun w hw => h1 w (by simpa using hw)) ⟨.bl _, H, I, ?_, q⟩
  show Value.bool _ = Value.bool _
  rw [show its.toArray.any e = its.any e by simp, h2]
  rfl
theorem op_notInM (hu : X.A.units + 70 < cLine) : OpR X (compareOp .NotIn) (rInM true) := by
  intro pins s σ H x y v u Q I rx ry h
  obtain ⟨hs, d, l, m, ms, rfl, rfl, hd, ⟨ds, hl, hp⟩, o1, o2, q⟩ := h
  obtain rfl : v = Value.ref d := rx
  obtain rfl : u = Value.ref l := ry
  obtain ⟨its, r, pl, hz⟩ := I.list (SqL.of hl)
  obtain ⟨e, h1, h2⟩ := items_m I (A := X.A.in1) (by show X.A.units + 1 + 66 < cLine; omega) hd o1 hp o2 r
  refine SeqAt.k9_notIn e pl.isList (fun w hw => h1 w (by simpa using hw)) ⟨.bl _, H, I, ?_, q⟩
  show Value.bool _ = Value.bool _
  rw [show its.toArray.any e = its.any e by simp, h2]
  rfl
end
theorem _root_.L2.Room.units70 {k : Nat} {A : Around} (r : Room k A) : A.units + 70 < cLine := by have := r.un; omega
end K9

/-! ## K7 -/
set_option maxHeartbeats 2000000
namespace K9
open PySem PySem.Spec PyProof.Rows L2
section
variable {P : Program} {w : World} {K : PySem.W.Frag} {mg : Str → Option Value} {base : Heap}
/-- the hands' names are names -/
abbrev NM (hs : List Str) : Prop := ∀ x ∈ hs, nameS x = true ∧ x.length ≤ 1000
theorem handB_in {x : Str} {hs : List Str} (n : NM hs) (h : x ∈ hs) : handB (.str x) hs = true := by
  show (nameS x && decide (x ∈ hs)) = true
  rw [(n x h).1, decide_eq_true h]
  rfl
/-! ### is_map -/
theorem sc_is_map : FnScope ["thing", "hands", "hand", "heard", "other"] ["thing", "hands"] (defScope s_is_map) := ⟨rfl, rfl, rfl, by decide +kernel, rfl, by decide +kernel, by decide +kernel⟩
def spIsMap : Sp := fun vs H Q _ => ∃ d a hs m, vs = [.ref d, .ref a] ∧ MapP H hs d m ∧ Strs H a hs ∧ hs.length ≤ 60 ∧ GM hs m ∧ NM hs ∧ (∀ k ∈ hs, (m k).length ≤ 1000) ∧ ∀ H', Same H H' → Q (.bl true) H'
theorem ok_is_map (T : Tx K mg) : Ok P w K mg base CX0 3 "is_map" ["thing", "hands"] spIsMap :=
  ok_of T d_is_map (by unfold fn; simp) rfl rfl rfl rfl rfl rfl (by decide +kernel) sc_is_map (fun _ _ _ _ _ _ us hl => match us, hl with | [_, _], _ => rfl) (fun vs H Q E ⟨_, _, _, _, h, _⟩ => by subst h; rfl) (fun f cdv A outer s H vs Q E hr h => by
  obtain ⟨d, a, hs, m, rfl, ⟨ks, ad, hp, hd, ha⟩, hh, hl, gm, nm, hlen, k⟩ := h
  have hu := hu_of hr
  refine ⟨_, PSs.nox (pss_cons (ps_if (PW.pt (pw_or (pt_not (pt_val (pe_callB (call_isik K) (by rfl) (T.Z "isinstance") bt_isinstance (pa_cons (pv 0) (pa_cons (pe_bltn (v := .ty "dict") (by rfl) (T.Z "dict") bt_dict rfl) pa_nil))))) (pw_or1 (pt_cmpR op_ne (pe_callB call_lenD (by rfl) (T.Z "len") bt_len (pa_cons (pv 0) pa_nil)) (pe_callB (call_len_seqk K) (by rfl) (T.Z "len") bt_len (pa_cons (pv 1) pa_nil)) (nomark _))))) (pss_one (ps_ret pe_bl)) pss_nil)
    (pss_cons (ps_for PassesOwn.never rfl (pi_listk K (pv 1)) (pg_name (i := 2) sc_is_map.nd rfl (by first | exact Or.inl rfl | exact Or.inr rfl))
      (pss_cons (ps_set (i := 3) sc_is_map.nd rfl (by first | exact Or.inl rfl | exact Or.inr rfl) (pe_dget1 hu (pv 0) (pv 2) ⟨rfl, rfl, rfl, rfl⟩))
      (pss_cons (ps_if (PW.pt (pw_or (pt_not (pt_val (pe_c (ok_is_list T) (hr.mono (by first | decide | omega)) pass0 (pa_cons (pv 3) pa_nil)))) (pw_or1 (pt_not (pt_val (pe_callB (cr_allk K rfl) (by rfl) (T.Z "all") bt_all (pa_cons (pe_lc (own := [("other", 4)])  rfl sc_is_map.nd (pi_listk K (pv 3)) (blkOk_by (by kernel_rfl)) (fun _ _ _ _ _ => (pg_name (i := 4) sc_is_map.nd rfl (by first | exact Or.inl rfl | exact Or.inr rfl))) (fun _ _ _ _ _ => pts_nil) (fun _ _ _ _ _ => (pe_c (ok_is_hand_of T) (hr.mono (by first | decide | omega)) pass0 (pa_cons (pv 4) (pa_cons (pv 1) pa_nil))))) pa_nil))))))) (pss_one (ps_ret pe_bl)) pss_nil)
      (pss_one (ps_if (PW.pt (pw_or (pt_cmpR (op_notIn_seqk K) (pv 2) (pv 3) (by rfl)) (pw_or1 (pt_cmpR op_ne (pe_callB call_lenD (by rfl) (T.Z "len") bt_len (pa_cons (pe_dc (own := [("other", 4)])  rfl sc_is_map.nd (pi_listk K (pv 3)) (blkOk_by (by kernel_rfl)) (fun _ _ _ _ _ => (pg_name (i := 4) sc_is_map.nd rfl (by first | exact Or.inl rfl | exact Or.inr rfl))) (fun _ _ _ _ _ => pts_nil) (fun _ _ _ _ _ => (pv 4)) (fun _ _ _ _ _ => pe_bl)) pa_nil)) (pe_callB (call_len_seqk K) (by rfl) (T.Z "len") bt_len (pa_cons (pv 3) pa_nil)) (nomark _))))) (pss_one (ps_ret pe_bl)) pss_nil)))))
    (pss_one (ps_ret pe_bl)))), ?_⟩
  refine ⟨_, rfl, _, .ty "dict", .type "dict", .type "dict", _, rfl, .ty _, (Odd.dK hd).ty, (Odd.dK hd).kit "dict" (by simp), _, rfl, ?_⟩
  refine iteN (show isB "dict" "dict" = true by decide +kernel) ?_
  refine ⟨_, rfl, d, _, rfl, hd, _, rfl, a, _, rfl, .inl (SqL.of hh), rfl, _, rfl, ?_⟩
  rw [mkv_len, hp.length_eq, List.length_map]
  refine iteN (decide_eq_true rfl) ?_
  refine ⟨_, rfl, a, rfl, ⟨_, SqL.of hh⟩, for_list (K := K) (a := a) (xs := hs.map V.str) (fun i σ H' => ∃ v2 v3, σ = [some (.ref d), some (.ref a), v2, v3, none] ∧ Same H H') ⟨none, none, rfl, .refl _⟩ (fun i σ H' _ ⟨_, _, _, s1⟩ => SqL.of (s1 _ _ hh)) ?_ ?_⟩
  · rintro i y σ H1 hi ⟨v2, v3, rfl, s1⟩
    obtain ⟨x, hx, rfl⟩ := map_at hi
    have hxm := at_mem hx
    have hxk : x ∈ ks := hp.mem_iff.mpr hxm
    refine ⟨_, rfl, d, rfl, .inl ⟨_, .of (s1 _ _ hd)⟩, _, rfl, _, DGet.k (k := Sum.inr x) (s1 _ _ hd), ?_⟩
    rw [valV_mkv hxk]
    have hax := s1 _ _ (ha x hxm)
    refine ⟨_, rfl, _, "list", rfl, .lst hax, fun H2 s2 => ⟨_, rfl, ?_⟩⟩
    refine iteN (show (isB "list" "list" || isB "list" "tuple") = true by decide +kernel) ?_
    refine ⟨_, rfl, ad x, rfl, ⟨_, SqL.of (s2 _ _ hax)⟩, ?_⟩
    refine lcl (m x) V.str (fun _ => true) (fun _ => .bl true) (SqL.of (s2 _ _ hax)) (hlen x hxm) ?_ ?_
    · rintro j o H3 ho s3 Kt Kf kt kf
      refine ⟨rfl, tyes ?_⟩
      have om := gm.sub x hxm o (at_mem ho)
      refine ⟨_, rfl, _, rfl, .str o, "str", a, hs, rfl, .str o, (fun z e => by cases e; exact (nm _ om).2), s3 _ _ (s2 _ _ (s1 _ _ hh)), fun H4 s4 => ?_⟩
      rw [handB_in nm om]
      exact kt rfl _ s4
    · intro D H3 hD s3 h3
      refine ⟨D, (m x).map fun _ => true, rfl, SqL.of ?_, _, rfl, ?_⟩
      · rw [h3, List.filter_eq_self.mpr (fun _ _ => rfl), List.map_map]
        rfl
      · refine iteN (by rw [List.all_map, List.all_eq_true]; intro y _; rfl) ?_
        have s13 : Same H H3 := (s1.trans s2).trans s3
        have hax3 := s13 _ _ (ha x hxm)
        refine ⟨_, rfl, _, rfl, ad x, _, rfl, .inl (SqL.of hax3), rfl, flat_strs _, _, rfl, ?_⟩
        refine iteBF (by rw [inV_str]; show (!decide (x ∈ m x)) = false; rw [decide_eq_true (gm.self x hxm)]; rfl) ?_
        refine ⟨_, rfl, ad x, rfl, ⟨_, SqL.of hax3⟩, ?_⟩
        refine dcg [] (m x) (gm.nd x hxm) (hlen x hxm) (fun _ v _ => v = .bl true) (fun _ _ _ _ _ h => h) (SqL.of hax3) ?_ ?_
        · rintro k0 D2 H4 hk s4 _ Kt2 Kf2 kt2
          exact ⟨rfl, iteT (B := Kf2 H4) ⟨_, rfl, kt2 _ _ (.refl _) rfl⟩⟩
        · intro D2 H4 fv nD2 s4 hD2 hf
          refine ⟨D2, _, rfl, hD2, _, rfl, ad x, _, rfl, .inl (SqL.of (s4 _ _ hax3)), rfl, _, rfl, ?_⟩
          refine iteBF (by unfold kvf; rw [List.length_map, List.length_map]; show (!decide _) = false; rw [decide_eq_true rfl]; rfl) ?_
          exact ⟨_, _, rfl, s13.trans s4⟩
  · rintro σ H1 ⟨v2, v3, rfl, s1⟩
    exact k H1 s1)
end
end K9

/-! ## K8 -/
set_option maxHeartbeats 2000000
namespace K9
open PySem PySem.Spec PyProof.Rows L2
section
variable {X : Cx}
/-- told of every block inside -/
abbrev InBlk (X : Cx) (scope : Scope) (p : Cx → Prop) : Prop := ∀ (s : Shared) (H : Hp) (C : Addr) (cl : List (Str × Addr)) (fp : List Addr), p (X.blk s H scope (compEnvC scope cl C X.env) fp)
/-- name = {..} on one line, the name a local -/
theorem ps_setDc {i : Nat} {y : Str} {py : Pos} {kx vx tg iter : Expr} {ifs : List Expr} {scope : Scope} {own : List (Str × Nat)} {pos spos : Pos} {wi : TI} {g : TG} {tt : TT} {tk tv : TE} (calm : X.calm = true) (un : X.N.Nodup) (at_ : X.N[i]? = some y) (mine : X.env.scope.names.lookup y = some .local)
    (used : swapsWith (.DictComp kx vx [⟨tg, iter, ifs, 0⟩] scope pos) (some (.Name y py)) spos.line X.env = pure true) (over : PI X tg iter wi) (blk : BlkOk X.N X.env.scope scope own)
    (targets : InBlk X scope fun Z => PG Z tg g) (asks : InBlk X scope fun Z => PTs Z ifs tt) (keys : InBlk X scope fun Z => PE Z kx tk) (vals : InBlk X scope fun Z => PE Z vx tv) (plain : ∀ x, foldedSetIterable iter X.env x = pure x := by intro _; rfl) :
    PS X (.Assign [.Name y py] (.DictComp kx vx [⟨tg, iter, ifs, 0⟩] scope pos) spos) (tAsg (tDc wi g tt tk tv (own.map (·.2))) (gName i)) := by
  constructor
  intro pins s σ H D inv goal
  have told : tDc wi g tt tk tv (own.map (·.2)) σ H fun v H1 => gName i v σ H1 D.nx := goal
  rw [exec_Assign_Name_used _ _ _ _ used]
  refine wpAny_bind (wpAny_standAt (wpAny_bind (wpAny_bind (thn (dc_core (use := some (assign (.Name y py) X.env)) (Qf := fun _ t => SP X pins D .next t) calm un inv over blk targets asks keys vals plain told ?_) fun _ t r => wpAny_pure (wpAny_pure r)))))
  intro new frame t m H1 inv1 z cell ⟨n0, n1, n2, n3, n4, n5⟩
  refine wpAny_assign_Name (store_ok2 (v := V.ref new) inv1 un at_ (.inl mine) rfl (fun t2 inv2 ⟨a, only, which⟩ => ?_) (.inr mine))
  have apart : frame ≠ a := fun e => which.elim (fun e2 => n1 (e.trans e2)) fun f => n4 y a f e.symm
  exact ⟨m, cell.sameBut only apart, fun _ only2 => ⟨_, H1, inv2.turned (t' := t2.toks) (fun b o ne get => (only2.2 b ne).trans get) n0 n1 n3 n4 n5, z⟩⟩
theorem sw_trueD {kx vx : Expr} {gs : List Comprehension} {scope : Scope} {pos py : Pos} {y : Str} {l : Nat} {env : Env} (hk : env.scope.kind = .function) (hy : env.scope.names.lookup y = some .local) (hl : (py.line == pos.line) = true)
    (ha : (scope.names.any fun (n, k) => n == y && (k == .local || k == .cell)) = false) : swapsWith (.DictComp kx vx gs scope pos) (some (.Name y py)) l env = pure true := by
  have kind_y : env.kindOf y = some .local := hy
  have in_def : env.blockKind = .function := by
    unfold Env.blockKind
    rw [hk]
    rfl
  unfold swapsWith
  simp only [in_def, kind_y, ha, hl, Expr.pos]
  rfl
end
section
variable {P : Program} {w : World} {K : PySem.W.Frag} {mg : Str → Option Value} {base : Heap}
abbrev srtm (m : Mp) : Mp := fun k => srt (m k)
theorem eqM_srt {hs : List Str} {m m' : Mp} : eqM hs (srtm m) (srtm m') = true ↔ Eqm hs m m' := by
  unfold eqM Eqm
  rw [List.all_eq_true]
  exact ⟨fun h k hk => of_decide_eq_true (h k hk), fun h k hk => decide_eq_true (h k hk)⟩
theorem so_srt {l : List Str} (h : SO l) : SO (srt l) := fun x hx => h x (mem_srt.mp hx)
theorem sc_checked_maps : FnScope ["maps", "hands", "found", "index", "thing", "kept", "hand"] ["maps", "hands"] (defScope s_checked_maps) := ⟨rfl, rfl, rfl, by decide +kernel, rfl, by decide +kernel, by decide +kernel⟩
structure GMs (hs : List Str) (ms : List Mp) : Prop where
  gm : ∀ m ∈ ms, GM hs m
  len : ∀ m ∈ ms, ∀ k ∈ hs, (m k).length < 60
  so : ∀ m ∈ ms, ∀ k ∈ hs, SO (m k)
  ne : ms ≠ []
  l60 : ms.length ≤ 60
  pw : ms.Pairwise fun m m' => ¬ Eqm hs m m'
def spCheckedMaps : Sp := fun vs H Q _ => ∃ lm a hs ms, vs = [.ref lm, .ref a] ∧ MapsP H hs lm ms ∧ Strs H a hs ∧ hs.Nodup ∧ hs.length ≤ 60 ∧ NM hs ∧ GMs hs ms ∧ ∀ p H', H p = none → Same H H' → MapsA H' hs p (ms.map srtm) → Q (.ref p) H'
theorem ok_checked_maps (T : Tx K mg) : Ok P w K mg base CX0 4 "checked_maps" ["maps", "hands"] spCheckedMaps :=
  ok_of T d_checked_maps (by unfold fn; simp) rfl rfl rfl rfl rfl rfl (by decide +kernel) sc_checked_maps (fun _ _ _ _ _ _ us hl => match us, hl with | [_, _], _ => rfl) (fun vs H Q E ⟨_, _, _, _, h, _⟩ => by subst h; rfl) (fun f cdv A outer s H vs Q E hr h => by
  obtain ⟨lm, a, hs, ms, rfl, ⟨ds, hlm, hds⟩, hh, nd, hl, nm, G, k⟩ := h
  have hu := hu_of hr
  refine ⟨_, PSs.nox (pss_cons (ps_if (PW.pt (pw_or (pt_not (pt_val (pe_c (ok_is_list T) (hr.mono (by first | decide | omega)) pass0 (pa_cons (pv 0) pa_nil)))) (pw_or1 (pt_cmpR op_eq (pe_callB (call_len_seqk K) (by rfl) (T.Z "len") bt_len (pa_cons (pv 0) pa_nil)) pe_int (nomark _))))) (pss_one ps_never) pss_nil)
    (pss_cons (ps_set (i := 2) sc_checked_maps.nd rfl (by first | exact Or.inl rfl | exact Or.inr rfl) (pe_lst pa_nil))
    (pss_cons (ps_for PassesOwn.never rfl (pi_enumk K rfl (T.Z "enumerate") (pa_cons (pv 0) pa_nil)) (pg_tupk K (n := 2) rfl (pgs_cons (pg_name (i := 3) sc_checked_maps.nd rfl (by first | exact Or.inl rfl | exact Or.inr rfl)) (pgs_cons (pg_name (i := 4) sc_checked_maps.nd rfl (by first | exact Or.inl rfl | exact Or.inr rfl)) pgs_nil)))
      (pss_cons (ps_if (pt_not (pt_val (pe_c (ok_is_map T) (hr.mono (by first | decide | omega)) pass0 (pa_cons (pv 4) (pa_cons (pv 1) pa_nil))))) (pss_one ps_never) pss_nil)
      (pss_cons (ps_setDc (i := 5) (own := [("hand", 6)])  rfl sc_checked_maps.nd rfl rfl (sw_trueD rfl rfl rfl (by decide +kernel)) (pi_listk K (pv 1)) (blkOk_by (by kernel_rfl)) (fun _ _ _ _ _ => (pg_name (i := 6) sc_checked_maps.nd rfl (by first | exact Or.inl rfl | exact Or.inr rfl))) (fun _ _ _ _ _ => pts_nil) (fun _ _ _ _ _ => (pv 6)) (fun _ _ _ _ _ => (pe_callB (cr_sortedSk K) (by rfl) (T.Z "sorted") bt_sorted (pa_cons (pe_dget hu (pv 4) (pv 6) (fun _ _ => rfl)) pa_nil))))
      (pss_cons (ps_if (pt_cmpR (op_inM hr.units70) (pv 5) (pv 2) (by rfl)) (pss_one ps_never) pss_nil)
      (pss_one (ps_expr (pe_bmk K PySem.F.plainAttrs_list PySem.F.slot_list_append PySem.F.type_list_append mt_append (pv 2) (pa_cons (pv 5) pa_nil))))))))
    (pss_one (ps_ret (pv 2)))))), ?_⟩
  have hlen := hds.length
  have hpos : 0 < ms.length := List.length_pos_iff.mpr G.ne
  have hl60 := G.l60
  refine ⟨_, rfl, _, "list", rfl, .lst hlm, fun H1 s1 => ⟨_, rfl, ?_⟩⟩
  refine iteN (show (isB "list" "list" || isB "list" "tuple") = true by decide +kernel) ?_
  refine ⟨_, rfl, lm, _, rfl, .inl (SqL.of (s1 _ _ hlm)), rfl, _, rfl, ?_⟩
  refine iteBF (by rw [List.length_map, dec_int]; exact beq_eq_false_iff_ne.mpr (by omega)) ?_
  refine ⟨Nat.zero_le _, fun l nl => ?_⟩
  have s2 : Same H (upd H1 l (.lst [])) := s1.trans (same_new nl)
  have hl0 : H l = none := s1.free nl
  refine ⟨_, rfl, lm, _, rfl, SqL.of (s2 _ _ hlm), for_it (walk_enum (xs := ds.map V.ref)) (fun i σ H' => ∃ v3 v4 v5 es, σ = [some (.ref lm), some (.ref a), some (.ref l), v3, v4, v5, none] ∧ Same H H' ∧ H' l = some (.lst (es.map V.ref)) ∧ Paired (MapA (hid [l] H') hs) es ((ms.take i).map srtm))
    ⟨none, none, none, [], rfl, s2, upd_same, .nil⟩ (fun i σ H' _ ⟨_, _, _, _, _, s, _⟩ => SqL.of (s _ _ hlm)) ?_ ?_⟩
  · rintro i y σ H2 H3 hi ⟨v3, v4, v5, es, rfl, s3, he1, he2⟩ ⟨Tt, x1, x2, rfl, nT, rfl, e1, e2⟩
    obtain ⟨d, hdi, rfl⟩ := map_at e2
    obtain rfl : V.int (i : Nat) = x1 := Option.some.inj e1
    obtain ⟨m, hmi, hP⟩ := paired_at hds hdi
    have hmm := at_mem hmi
    have sT := same_new (o := .tup [.int (i : Nat), .ref d]) nT
    refine ⟨Tt, _, rfl, SqT.of upd_same, rfl, _, _, rfl, _, _, rfl, rfl, ?_⟩
    have s4 := s3.trans sT
    refine ⟨_, rfl, _, rfl, d, a, hs, m, rfl, hP.mono s4, s4 _ _ hh, hl, G.gm m hmm, nm, (fun k hk => by have := G.len m hmm k hk; omega), fun H5 s5 => ⟨_, rfl, iteF ?_⟩⟩
    have s45 := s4.trans s5
    obtain ⟨ks, ad, hp, hd, ha⟩ := hP
    have he5 : H5 l = some (.lst (es.map V.ref)) := s5 _ _ (sT _ _ he1)
    refine ⟨_, rfl, a, rfl, ⟨_, SqL.of (s45 _ _ hh)⟩, ?_⟩
    refine dcg [l] hs nd (by omega) (fun k v H' => ∃ b, v = .ref b ∧ Strs H' b (srt (m k))) (fun k v H3 H4 s ⟨b, e1, e2⟩ => ⟨b, e1, s _ _ e2⟩) (SqL.of (s45 _ _ hh)) ?_ ?_
    · rintro k0 D2 H6 hk s6 ⟨oD, hoD⟩ Kt2 Kf2 kt2
      refine ⟨rfl, iteT (B := Kf2 H6) ?_⟩
      have hkk : k0 ∈ ks := hp.mem_iff.mpr hk
      have hak := s6 _ _ (s45 _ _ (ha k0 hk))
      refine ⟨_, rfl, _, rfl, _, rfl, d, _, rfl, (valV_mkv hkk ▸ DGet.k (k := Sum.inr k0) (s6 _ _ (s45 _ _ hd))), ad k0, m k0, rfl, SqL.of hak, by have := G.len m hmm k0 hk; omega, fun ys b hpm hso nb => ?_⟩
      rw [srt_is hpm hso]
      refine kt2 _ _ (same_new nb) ⟨b, rfl, hid_of ?_ upd_same⟩
      simpa using And.intro (ne_of_none hoD nb).symm (ne_of_none (s6 _ _ he5) nb).symm
    · intro D2 H6 fv nD2 s6 hD2 hf
      have nDl : D2 ∉ [l] := by simpa using (ne_of_none he5 nD2).symm
      have hA : MapA (hid [l] H6) hs D2 (srtm m) := mapA_of hD2 nDl hf
      have he6 := s6 _ _ he5
      have sE : Same (hid [l] H2) (hid [l] H6) := same_hid ((sT.trans s5).trans s6)
      have hes : Paired (MapA (hid [l] H6) hs) es ((ms.take i).map srtm) := L2.Paired.mapP he2 fun _ _ h => h.mono sE
      refine ⟨_, rfl, _, rfl, hs, D2, l, srtm m, (ms.take i).map srtm, rfl, rfl, hA.mono hid_le, ⟨es, he6, L2.Paired.mapP hes fun _ _ h => h.mono hid_le⟩, (fun k hk => so_srt (G.so m hmm k hk)), ?_, _, rfl, ?_⟩
      · intro m' hm' k hk
        obtain ⟨m0, h0, rfl⟩ := List.mem_map.mp hm'
        exact so_srt (G.so m0 (List.mem_of_mem_take h0) k hk)
      · refine iteBF ?_ ?_
        · show ((ms.take i).map srtm).any (fun m' => eqM hs m' (srtm m)) = false
          rw [List.any_eq_false]
          intro m' hm'
          obtain ⟨m0, h0, rfl⟩ := List.mem_map.mp hm'
          intro z
          obtain ⟨j, hj, ej⟩ := List.mem_iff_getElem.mp h0
          rw [List.length_take] at hj
          rw [List.getElem_take] at ej
          have hpw := List.pairwise_iff_getElem.mp G.pw j i (by omega) (at_lt hmi) (by omega)
          rw [ej, (List.getElem?_eq_some_iff.mp hmi).2] at hpw
          exact hpw (eqM_srt.mp z)
        · refine ⟨_, rfl, .inl ⟨rfl, _, SqL.of he6⟩, _, rfl, l, _, _, rfl, rfl, he6, ?_, ?_⟩
          · have h1 := hes.length
            rw [List.length_map, List.length_take] at h1
            rw [List.length_map]
            exact small1000 (by omega)
          · refine ⟨_, _, _, es ++ [D2], rfl, same_mut (s45.trans s6) hl0, ?_, ?_⟩
            · rw [upd_same, List.map_append]
              rfl
            · rw [hid_in (by simp), take_more hmi, List.map_append]
              exact Paired.snoc hes hA
  · rintro σ H2 ⟨v3, v4, v5, es, rfl, s3, he1, he2⟩
    rw [List.length_map, hlen, List.take_length] at he2
    exact ⟨_, rfl, k l H2 hl0 s3 ⟨es, he1, L2.Paired.mapP he2 fun _ _ h => h.mono hid_le⟩⟩)
/-! ### Maps(hands, maps) -/
theorem sc_Maps_init : FnScope ["self", "hands", "maps"] ["self", "hands", "maps"] (defScope s_Maps_init) := ⟨rfl, rfl, rfl, by decide +kernel, rfl, by decide +kernel, by decide +kernel⟩
def spMapsInit (C : Addr) : Sp := fun vs H Q _ => ∃ x dx a lm xs ms, vs = [.ref x, .ref a, .ref lm] ∧ H x = some (.ins C dx []) ∧ Strs H a xs ∧ NM xs ∧ xs.Nodup ∧ 2 ≤ xs.length ∧ xs.length < 60 ∧ MapsP (hid [x] H) (srt xs) lm ms ∧ GMs (srt xs) ms ∧
  ∀ H', Same (hid [x] H) (hid [x] H') → WorldAt C H' x (srt xs) (ms.map srtm) → Q .non H'
theorem ok_Maps_init (T : Tx K mg) : OkM P w K mg base CX0 5 (He.ma K (He.ga K "Maps") "__init__") ["self", "hands", "maps"] (spMapsInit (He.ga K "Maps")) :=
  okm_of T d_Maps_init (by unfold fn; simp) rfl rfl rfl rfl rfl rfl sc_Maps_init (fun _ _ _ _ _ _ us hl => match us, hl with | [_, _, _], _ => rfl) (fun vs H Q E ⟨_, _, _, _, _, _, h, _⟩ => by subst h; rfl) (fun f cdv A outer s H vs Q E hr h => by
  obtain ⟨x, dx, a, lm, xs, ms, rfl, hx, ha, nm, nd, h2, h60, hm, G, k⟩ := h
  refine ⟨_, PSs.nox (pss_cons (ps_fld (pv 0) (pe_c (ok_checked_hands T) (hr.mono (by first | decide | omega)) pass0 (pa_cons (pv 1) pa_nil)) rfl)
    (pss_one (ps_fld (pv 0) (pe_c (ok_checked_maps T) (hr.mono (by first | decide | omega)) pass0 (pa_cons (pv 2) (pa_cons (pe_fldk K (pv 0) rfl) pa_nil))) rfl))), ?_⟩
  refine ⟨_, rfl, a, xs, rfl, ha, nm, nd, h2, h60, fun p H1 np s1 hp => ?_⟩
  refine ⟨_, rfl, x, _, dx, [], rfl, s1 _ _ hx, T.cM, T.nH, (by show 0 < 1000; decide), ?_⟩
  generalize hH2 : upd H1 x (.ins (He.ga K "Maps") dx (putF "own_hands" (.ref p) [])) = H2
  have hx2 : H2 x = some (.ins (He.ga K "Maps") dx (putF "own_hands" (.ref p) [])) := by rw [← hH2]; exact upd_same
  have sx : Same (hid [x] H) (hid [x] H2) := by rw [← hH2, hid_in (by simp)]; exact same_hid s1
  have npx : p ≠ x := (ne_of_none hx np).symm
  have hp2 : Strs H2 p (srt xs) := by
    show H2 p = _
    rw [← hH2, upd_ne npx]
    exact hp
  refine ⟨_, rfl, _, rfl, x, _, dx, _, _, rfl, hx2, T.cM, T.nH, (by rw [lookup_putF, if_pos rfl]), ?_⟩
  refine ⟨lm, p, srt xs, ms, rfl, (hm.mono sx).mono hid_le, hp2, srt_nd nd, by rw [srt_len]; omega, fun y hy => nm y (mem_srt.mp hy), G, fun q H3 nq s3 hq => ?_⟩
  refine ⟨_, rfl, x, _, dx, _, rfl, s3 _ _ hx2, T.cM, T.nM, (by show 1 < 1000; decide), ?_⟩
  refine k _ ?_ ⟨dx, p, q, upd_same, ?_, ?_⟩
  · rw [hid_in (by simp)]
    exact Same.trans sx (same_hid s3)
  · show upd _ x _ p = _
    rw [upd_ne npx]
    exact s3 _ _ hp2
  · obtain ⟨es, e1, e2⟩ := hq
    have hx3 := s3 _ _ hx2
    have up : ∀ {b : Addr} {o : HO}, H3 b = some o → (∀ C dx fs, o ≠ .ins C dx fs) → ∀ u, upd H3 x u b = some o := fun {b o} e n u => by
      have nb : b ≠ x := ne_of e hx3 (n _ _ _)
      rw [upd_ne nb]
      exact e
    refine ⟨es, up e1 (fun _ _ _ z => by cases z) _, L2.Paired.mapP e2 fun d m ⟨ad, h1, h2⟩ => ⟨ad, up h1 (fun _ _ _ z => by cases z) _, fun k hk => up (h2 k hk) (fun _ _ _ z => by cases z) _⟩⟩)
end
end K9

/-! ## L1 -/
set_option maxHeartbeats 2000000
namespace K9
open PySem PySem.Spec PyProof.Rows L2
section
variable {P : Program} {w : World} {K : PySem.W.Frag} {mg : Str → Option Value} {base : Heap}
/-! ### the stream -/
theorem sc_l_start : FnScope ["_law_script"] ["_law_script"] (defScope s_l_start) := ⟨rfl, rfl, rfl, by decide +kernel, rfl, by decide +kernel, by decide +kernel⟩
def spStart (K : PySem.W.Frag) : Sp := fun vs H Q _ => ∃ (a : Addr) (ns : List Int), vs = [.ref a] ∧ SqL K H a (ns.map V.int) ∧ ∀ p q H', H p = none → H q = none → Same H H' → Stm H' p q 0 → Q (.ref p) H'
theorem ok_l_start (T : Tx K mg) : Ok P w K mg base CX0 1 "_law_start" ["_law_script"] (spStart K) :=
  ok_of T d_l_start (by unfold fn; simp) rfl rfl rfl rfl rfl rfl (by decide +kernel) sc_l_start (fun _ _ _ _ _ _ us hl => match us, hl with | [_], _ => rfl) (fun vs H Q E ⟨_, _, h, _⟩ => by subst h; rfl) (fun f cdv A outer s H vs Q E hr h => by
  obtain ⟨a, ns, rfl, ha, k⟩ := h
  refine ⟨_, PSs.nox (pss_one (ps_ret (pe_lst (pa_cons (pe_callTy (call_list_ofk K) (by rfl) (T.Z "list") bt_list (pa_cons (pv 0) pa_nil)) (pa_cons pe_int (pa_cons pe_int (pa_cons pe_int pa_nil))))))), ?_⟩
  refine ⟨_, rfl, a, _, rfl, .inl ha, fun q nq => ⟨by show 4 ≤ sizeLine; decide, fun p np => ?_⟩⟩
  have s1 := same_new (o := .lst (ns.map V.int)) nq
  refine k p q _ (s1.free np) nq (s1.trans (same_new np)) ⟨⟨ns, 0, 11, upd_same, ?_, by decide, by decide, by decide⟩, ?_⟩
  · rw [upd_ne (ne_of_none upd_same np)]
    exact upd_same
  · exact (ne_of_none upd_same np).symm)
theorem eqvAll_nil : ∀ ns : List Int, PyData.eqvAll (ns.map .int) [] = decide (ns = [])
  | [] => by simp [PyData.eqvAll]
  | _ :: _ => by simp [PyData.eqvAll]
theorem dpAll_int {K : PySem.W.Frag} {H : Hp} : ∀ l : List Int, DpAll K H (l.map V.int) (l.map .int)
  | [] => .nil
  | x :: r => .cons (.int x) (dpAll_int r)
theorem lay_int : ∀ l : List Int, PyData.canLayAll0 (l.map .int) = true
  | [] => by simp [PyData.canLayAll0]
  | x :: r => by simp [PyData.canLayAll0, PyData.canLay0, lay_int r]
theorem dep_int : ∀ l : List Int, PyData.depthAll (l.map .int) = 0
  | [] => by simp [PyData.depthAll]
  | x :: r => by
    have := dep_int r
    simp only [List.map_cons, PyData.depthAll, PyData.depth, this]
    rfl
theorem shaped_ints (l : List Int) : SeqAt.shaped (.list (l.map .int)) = true := shaped_of (by simp only [PyData.canLay0]; exact lay_int l) (by simp only [PyData.depth, dep_int]; decide)
theorem sc_l_draw : FnScope ["_law_stream", "_law_many", "_law_cell", "_law_digit", "_law_mixed_here"] ["_law_stream", "_law_many"] (defScope s_l_draw) := ⟨rfl, rfl, rfl, by decide +kernel, rfl, by decide +kernel, by decide +kernel⟩
def spDraw : Sp := fun vs H Q _ => ∃ p q many c, vs = [.ref p, .int many] ∧ 0 < many ∧ many < 1073741824 ∧ Stm H p q c ∧ c ≤ 1000000000 ∧ ∀ d H', 0 ≤ d → d < many → Stm H' p q (c + 1) → Kp p q H H' → Q (.int d) H'
/-- the stream's list stored to -/
theorem kp_p {p q : Addr} {H0 H : Hp} {o : HO} (s : Kp p q H0 H) : Kp p q H0 (upd H p o) := by
  show Same _ (hid [p, q] (upd H p o))
  rw [hid_in (by simp)]
  exact s
theorem kp_q {p q : Addr} {H0 H : Hp} {o : HO} (s : Kp p q H0 H) : Kp p q H0 (upd H q o) := by
  show Same _ (hid [p, q] (upd H q o))
  rw [hid_in (by simp)]
  exact s
theorem seq_nat {n j : Nat} (h : j < n) : seqIndex? (j : Int) n = some j := by
  unfold seqIndex?
  have h1 : ¬ ((j : Int) < 0) := by omega
  have h2 : (j : Int) < (n : Int) := by omega
  have h3 : (0 : Int) ≤ (j : Int) := by omega
  simp only [if_neg h1, h2, h3, decide_true, Bool.and_self, if_pos, Int.toNat_natCast]
theorem emod_ok (a : Int) {m : Int} (h : 0 < m) : 0 ≤ a % m ∧ a % m < m := ⟨Int.emod_nonneg _ (by omega), Int.emod_lt_of_pos _ h⟩
theorem ok_l_draw (T : Tx K mg) : Ok P w K mg base CX0 1 "_law_draw" ["_law_stream", "_law_many"] spDraw :=
  ok_of T d_l_draw (by unfold fn; simp) rfl rfl rfl rfl rfl rfl (by decide +kernel) sc_l_draw (fun _ _ _ _ _ _ us hl => match us, hl with | [_, _], _ => rfl) (fun vs H Q E ⟨_, _, _, _, h, _⟩ => by subst h; rfl) (fun f cdv A outer s H vs Q E hr h => by
  obtain ⟨p, q, many, c, rfl, m0, m30, ⟨⟨ns, n, m, hp, hq, n0, mm0, mm1⟩, npq⟩, hc, k⟩ := h
  refine ⟨_, PSs.nox (pss_cons (ps_asg (pe_op op_add (pe_ix (ix_listk K) (pv 0) pe_int (fun _ _ => rfl)) pe_int) (pg_sub (pv 0) pe_int set_list))
    (pss_cons (ps_while PassesOwn.never (PW.pt (pw_and (pt_cmpR op_eq (pe_ix (ix_listk K) (pv 0) pe_int (fun _ _ => rfl)) pe_int (nomark _)) (pw_and1 (pt_cmpR (op_neDk K hr.units) (pe_ix (ix_listk K) (pv 0) pe_int (fun _ _ => rfl)) (pe_lst pa_nil) (nomark _)))))
      (pss_cons (ps_set (i := 2) sc_l_draw.nd rfl (by first | exact Or.inl rfl | exact Or.inr rfl) (pe_bmk K PySem.F.plainAttrs_list PySem.F.slot_list_pop PySem.F.type_list_pop mt_popAt (pe_ix (ix_listk K) (pv 0) pe_int (fun _ _ => rfl)) (pa_cons pe_int pa_nil)))
      (pss_cons (ps_asg (pe_op op_mod (pe_callTy call_int1 (by rfl) (T.Z "int") bt_int (pa_cons (pe_op op_add (pe_op op_add (pe_op op_mul (pe_ix (ix_listk K) (pv 0) pe_int (fun _ _ => rfl)) pe_int) (pv 2)) pe_int) pa_nil)) pe_int) (pg_sub (pv 0) pe_int set_list))
      (pss_one (ps_asg (pe_ifExp (pt_cmpR op_ge (pv 2) (pe_op op_pow pe_int pe_int) (nomark _)) (pv 2) pe_int) (pg_sub (pv 0) pe_int set_list))))))
    (pss_cons (ps_if (pt_cmpR op_gt (pe_ix (ix_listk K) (pv 0) pe_int (fun _ _ => rfl)) pe_int (nomark _)) (pss_cons (ps_set (i := 3) sc_l_draw.nd rfl (by first | exact Or.inl rfl | exact Or.inr rfl) (pe_op op_mod (pe_callTy call_int1 (by rfl) (T.Z "int") bt_int (pa_cons (pe_ix (ix_listk K) (pv 0) pe_int (fun _ _ => rfl)) pa_nil)) (pv 1)))
      (pss_cons (ps_asg (pe_op op_fdiv (pe_ix (ix_listk K) (pv 0) pe_int (fun _ _ => rfl)) (pv 1)) (pg_sub (pv 0) pe_int set_list))
      (pss_one (ps_ret (pv 3))))) pss_nil)
    (pss_cons (ps_set (i := 4) sc_l_draw.nd rfl (by first | exact Or.inl rfl | exact Or.inr rfl) (pe_op op_mod (pe_callTy call_int1 (by rfl) (T.Z "int") bt_int (pa_cons (pe_op op_pow (pe_op op_add (pe_op op_add (pe_ix (ix_listk K) (pv 0) pe_int (fun _ _ => rfl)) (pe_op op_mul pe_int (pe_ix (ix_listk K) (pv 0) pe_int (fun _ _ => rfl)))) pe_int) pe_int) pa_nil)) pe_int))
    (pss_one (ps_ret (pe_op op_mod (pe_op op_mod (pe_callTy call_int1 (by rfl) (T.Z "int") bt_int (pa_cons (pe_op op_pow (pe_op op_add (pe_op op_add (pe_op op_mul (pv 4) pe_int) (pe_op op_mul pe_int (pe_ix (ix_listk K) (pv 0) pe_int (fun _ _ => rfl)))) pe_int) pe_int) pa_nil)) pe_int) (pv 1)))))))), ?_⟩
  refine ⟨_, rfl, p, _, 2, _, rfl, rfl, SqL.of hp, atI_nat (j := 2) rfl, _, _, rfl, rfl, _, rfl, p, _, _, 2, rfl, rfl, hp, rfl, ?_⟩
  refine ⟨fun N σ H' => ∃ ns n m v2, σ = [some (.ref p), some (.int many), v2, none, none] ∧ N = ns.length ∧ H' p = some (.lst [.ref q, .int n, .int ((c + 1 : Nat) : Int), .int m]) ∧ H' q = some (.lst (ns.map V.int)) ∧ 0 ≤ n ∧ 0 ≤ m ∧ m < 2147483647 ∧ Kp p q H H',
    ⟨_, ns, n, m, none, rfl, rfl, (by rw [upd_same]; rfl), by rw [upd_ne npq.symm]; exact hq, n0, mm0, mm1, kp_p (.refl _)⟩, ?_⟩
  rintro N σ H1 ⟨ns, n, m, v2, rfl, rfl, hp, hq, n0, mm0, mm1, s1⟩
  -- behind the loop
  have behind : ∀ {H1 : Hp}, H1 p = some (.lst [.ref q, .int n, .int ((c + 1 : Nat) : Int), .int m]) → H1 q = some (.lst (ns.map V.int)) → Kp p q H H1 → True := fun _ _ _ => trivial
  refine ⟨_, rfl, p, _, 1, _, rfl, rfl, SqL.of hp, atI_nat (j := 1) rfl, rfl, _, rfl, ?_⟩
  have rest : ∀ {H1 : Hp}, H1 p = some (.lst [.ref q, .int n, .int ((c + 1 : Nat) : Int), .int m]) → H1 q = some (.lst (ns.map V.int)) → Kp p q H H1 →
      (tSeq (tIfS (tTest (tOp (rI0 fun i j => .bl (decide (j < i))) (tOp (rIxL K) (tVar 0) (tC (.int 1))) (tC (.int 0))))
        (tSeq (tAsg (tOp (rI (fun _ j => 0 < j) fun i j => .int (i % j)) (tCB (fun xs H Q => (∃ i, xs = [.int i] ∧ Q (.int i) H) ∨ ∃ k, xs = [.bl k] ∧ Q (.int (if k then 1 else 0)) H) (tCons (tOp (rIxL K) (tVar 0) (tC (.int 1))) tNil)) (tVar 1)) (gName 3))
          (tSeq (tAsg (tOp (rI CDiv fun i j => .int (i / j)) (tOp (rIxL K) (tVar 0) (tC (.int 1))) (tVar 1)) (gSub (tVar 0) (tC (.int 1)) rSetL)) (tRet (tVar 3)))) tNext)
        (tSeq (tAsg (tOp (rI (fun _ j => 0 < j) fun i j => .int (i % j)) (tCB (fun xs H Q => (∃ i, xs = [.int i] ∧ Q (.int i) H) ∨ ∃ k, xs = [.bl k] ∧ Q (.int (if k then 1 else 0)) H) (tCons (tOp (rI CPow fun i j => .int (i ^ j.toNat)) (tOp (rI0 fun i j => .int (i + j)) (tOp (rI0 fun i j => .int (i + j)) (tOp (rIxL K) (tVar 0) (tC (.int 3))) (tOp (rI CMul fun i j => .int (i * j)) (tC (.int 7919)) (tOp (rIxL K) (tVar 0) (tC (.int 2))))) (tC (.int 104729))) (tC (.int 5))) tNil)) (tC (.int 2147483629))) (gName 4))
          (tRet (tOp (rI (fun _ j => 0 < j) fun i j => .int (i % j)) (tOp (rI (fun _ j => 0 < j) fun i j => .int (i % j)) (tCB (fun xs H Q => (∃ i, xs = [.int i] ∧ Q (.int i) H) ∨ ∃ k, xs = [.bl k] ∧ Q (.int (if k then 1 else 0)) H) (tCons (tOp (rI CPow fun i j => .int (i ^ j.toNat)) (tOp (rI0 fun i j => .int (i + j)) (tOp (rI0 fun i j => .int (i + j)) (tOp (rI CMul fun i j => .int (i * j)) (tVar 4) (tC (.int 48271))) (tOp (rI CMul fun i j => .int (i * j)) (tC (.int 30011)) (tOp (rIxL K) (tVar 0) (tC (.int 2))))) (tC (.int 29))) (tC (.int 3))) tNil)) (tC (.int 1000000007))) (tVar 1)))))
        { nx := fun _ H' => Q .non H', rt := Q } [some (.ref p), some (.int many), v2, none, none] H1 := by
    intro H1 hp hq s1
    refine ⟨_, rfl, p, _, 1, _, rfl, rfl, SqL.of hp, atI_nat (j := 1) rfl, _, _, rfl, rfl, _, rfl, ?_⟩
    by_cases hn : 0 < n
    · refine iteB (decide_eq_true hn) ?_
      refine ⟨_, rfl, p, _, 1, _, rfl, rfl, SqL.of hp, atI_nat (j := 1) rfl, .inl ⟨_, rfl, _, rfl, _, _, rfl, rfl, m0, ?_⟩⟩
      refine ⟨_, rfl, p, _, 1, _, rfl, rfl, SqL.of hp, atI_nat (j := 1) rfl, _, rfl, _, _, rfl, rfl, ⟨m0, m30⟩, _, rfl, p, _, _, 1, rfl, rfl, hp, rfl, ?_⟩
      obtain ⟨d0, d1⟩ := emod_ok n m0
      refine ⟨_, rfl, k _ _ d0 d1 ⟨⟨ns, n / many, m, upd_same, ?_, Int.ediv_nonneg n0 (by omega), mm0, mm1⟩, npq⟩ (kp_p s1)⟩
      rw [upd_ne npq.symm]
      exact hq
    · refine iteBF (decide_eq_false hn) ?_
      have h1 : ((c + 1 : Nat) : Int) ≤ 1000000001 := by omega
      have h2 : (0 : Int) ≤ ((c + 1 : Nat) : Int) := by omega
      refine ⟨_, rfl, p, _, 3, _, rfl, rfl, SqL.of hp, atI_nat (j := 3) rfl, _, rfl, p, _, 2, _, rfl, rfl, SqL.of hp, atI_nat (j := 2) rfl, _, _, rfl, rfl, .inl ⟨by decide, by decide⟩, _, _, rfl, rfl, _, _, rfl, rfl, _, _, rfl, rfl, ⟨by decide, by decide, ?_⟩, .inl ⟨_, rfl, _, _, rfl, rfl, (by decide : (0 : Int) < 2147483629), ?_⟩⟩
      · omega
      · obtain ⟨d0, d1⟩ := emod_ok ((m + 7919 * ((c + 1 : Nat) : Int) + 104729) ^ Int.toNat 5) (show (0 : Int) < 2147483629 by decide)
        refine ⟨_, rfl, _, _, rfl, rfl, .inl ⟨by omega, by omega⟩, _, rfl, p, _, 2, _, rfl, rfl, SqL.of hp, atI_nat (j := 2) rfl, _, _, rfl, rfl, .inl ⟨by decide, by decide⟩, _, _, rfl, rfl, _, _, rfl, rfl, _, _, rfl, rfl, ⟨by decide, by decide, ?_⟩, .inl ⟨_, rfl, _, _, rfl, rfl, (by decide : (0 : Int) < 1000000007), _, rfl, _, _, rfl, rfl, m0, ?_⟩⟩
        · omega
        · obtain ⟨f0, f1⟩ := emod_ok ((((m + 7919 * ((c + 1 : Nat) : Int) + 104729) ^ Int.toNat 5 % 2147483629) * 48271 + 30011 * ((c + 1 : Nat) : Int) + 29) ^ Int.toNat 3 % 1000000007) m0
          exact k _ _ f0 f1 ⟨⟨ns, n, m, hp, hq, n0, mm0, mm1⟩, npq⟩ s1
  by_cases hn : n = 0
  · rw [decide_eq_true (show V.int n = V.int 0 by rw [hn])]
    refine iteT ⟨_, rfl, p, _, 0, _, rfl, rfl, SqL.of hp, atI_nat (j := 0) rfl, Nat.zero_le _, fun e ne => ?_⟩
    have sE : Same H1 (upd H1 e (.lst [])) := same_new ne
    have hpe := sE _ _ hp
    have hqe := sE _ _ hq
    refine ⟨.list (ns.map .int), .list [], .lst (SqL.of hqe) (dpAll_int ns), .lst (SqL.of upd_same) .nil, shaped_ints ns, shaped_ints [], _, rfl, ?_⟩
    rw [show PyData.eqv (.list (ns.map .int)) (.list []) = decide (ns = []) by simp only [PyData.eqv, eqvAll_nil]]
    cases ns with
    | nil =>
      refine iteF ?_
      exact rest hpe hqe (Same.trans s1 (same_hid sE))
    | cons z ns =>
      refine iteT ⟨fun σ' H' => ∃ n' m' v2', σ' = [some (.ref p), some (.int many), v2', none, none] ∧ H' p = some (.lst [.ref q, .int n', .int ((c + 1 : Nat) : Int), .int m']) ∧ H' q = some (.lst (ns.map V.int)) ∧ 0 ≤ n' ∧ 0 ≤ m' ∧ m' < 2147483647 ∧ Kp p q H H', fun σ' H' ⟨n', m', v2', a1, a2, a3, a4, a5, a6, a7⟩ => ⟨ns.length, Nat.lt_succ_self _, ns, n', m', v2', a1, rfl, a2, a3, a4, a5, a6, a7⟩, ?_⟩
      -- _law_cell = _law_stream[0].pop(0)
      refine ⟨_, rfl, p, _, 0, _, rfl, rfl, SqL.of hpe, atI_nat (j := 0) rfl, .inl ⟨rfl, _, SqL.of hqe⟩, q, _, 0, 0, _, rfl, rfl, hqe, by decide, by decide, seq_nat (j := 0) (by simp), rfl, ?_⟩
      generalize hH2 : upd (upd H1 e (.lst [])) q (.lst (((z :: ns).map V.int).eraseIdx 0)) = H2
      have hp2 : H2 p = some (.lst [.ref q, .int n, .int ((c + 1 : Nat) : Int), .int m]) := by rw [← hH2, upd_ne npq]; exact hpe
      have hq2 : H2 q = some (.lst (ns.map V.int)) := by rw [← hH2, upd_same]; rfl
      have s2 : Kp p q H H2 := by rw [← hH2]; exact kp_q (Same.trans s1 (same_hid sE))
      -- _law_stream[3] = ..
      refine ⟨_, rfl, p, _, 3, _, rfl, rfl, SqL.of hp2, atI_nat (j := 3) rfl, _, _, rfl, rfl, .inl ⟨by omega, by omega⟩, _, rfl, _, _, rfl, rfl, _, _, rfl, rfl, .inl ⟨_, rfl, _, _, rfl, rfl, (by decide : (0 : Int) < 2147483647), _, rfl, p, _, _, 3, rfl, rfl, hp2, rfl, ?_⟩⟩
      obtain ⟨d0, d1⟩ := emod_ok (m * 8191 + z + 3) (show (0 : Int) < 2147483647 by decide)
      -- _law_stream[1] = ..
      refine ⟨_, rfl, _, _, rfl, rfl, ⟨by decide, by decide, by decide⟩, _, _, rfl, rfl, _, rfl, ?_⟩
      by_cases hz : (10 : Int) ^ Int.toNat 18 ≤ z
      · refine iteB (decide_eq_true hz) ⟨_, rfl, _, rfl, p, _, _, 1, rfl, rfl, upd_same, rfl, ?_⟩
        refine ⟨z, (m * 8191 + z + 3) % 2147483647, _, rfl, upd_same, ?_, ?_, d0, d1, kp_p (kp_p s2)⟩
        · rw [upd_ne npq.symm, upd_ne npq.symm]
          exact hq2
        · exact Int.le_trans (by decide) hz
      · refine iteBF (decide_eq_false hz) ⟨_, rfl, p, _, _, 1, rfl, rfl, upd_same, rfl, ?_⟩
        refine ⟨0, (m * 8191 + z + 3) % 2147483647, _, rfl, upd_same, ?_, by decide, d0, d1, kp_p (kp_p s2)⟩
        rw [upd_ne npq.symm, upd_ne npq.symm]
        exact hq2
  · rw [decide_eq_false (show ¬ V.int n = V.int 0 from fun e => hn (V.int.inj e))]
    exact iteF (rest hp hq s1))
end
end K9

/-! ## L2 -/
set_option maxHeartbeats 2000000
namespace K9
open PySem PySem.Spec PyProof.Rows L2
theorem erase_perm {α : Type} : ∀ {l : List α} {i : Nat} (h : i < l.length), (l[i] :: l.eraseIdx i).Perm l
  | x :: r, 0, h => .refl _
  | x :: r, i + 1, h => by
    have h' : i < r.length := by simpa using h
    show (r[i] :: x :: r.eraseIdx i).Perm (x :: r)
    exact (List.Perm.swap x _ _).trans (List.Perm.cons x (erase_perm h'))
theorem Stm.upd {H : Hp} {p q : Addr} {c : Nat} {a : Addr} {o : HO} (h : Stm H p q c) (n1 : a ≠ p) (n2 : a ≠ q) : Stm (upd H a o) p q c := by
  obtain ⟨⟨ns, n, m, h1, h2, h3⟩, ne⟩ := h
  exact ⟨⟨ns, n, m, by rw [upd_ne n1.symm]; exact h1, by rw [upd_ne n2.symm]; exact h2, h3⟩, ne⟩
theorem Stm.tr {H : Hp} {p q : Addr} {c : Nat} (h : Stm H p q c) : (∃ o, H p = some o) ∧ ∃ o, H q = some o := let ⟨_, _, _, h1, h2, _⟩ := h.ex; ⟨⟨_, h1⟩, _, h2⟩
theorem kp_no {p q : Addr} {H H' : Hp} (s : Kp p q H H') (st : Stm H' p q c) {a : Addr} (n : H' a = none) (t : Stm H p q c0) : H a = none := by
  cases e : H a with
  | none => rfl
  | some o =>
    obtain ⟨n1, n2⟩ := st.pn n
    have := kp_at s (by simp [n1, n2]) e
    rw [n] at this
    cases this
section
variable {P : Program} {w : World} {K : PySem.W.Frag} {mg : Str → Option Value} {base : Heap}
theorem sc_l_pick : FnScope ["_law_stream", "_law_some"] ["_law_stream", "_law_some"] (defScope s_l_pick) := ⟨rfl, rfl, rfl, by decide +kernel, rfl, by decide +kernel, by decide +kernel⟩
def spPick : Sp := fun vs H Q _ => ∃ (p q : Addr) (c : Nat) (a : Addr) (xs : List V), vs = [.ref p, .ref a] ∧ Stm H p q c ∧ c ≤ 1000000000 ∧ hid [p, q] H a = some (.lst xs) ∧ xs ≠ [] ∧ xs.length ≤ 1000 ∧ ∀ (i : Nat) (x : V) (H' : Hp), xs[i]? = some x → Stm H' p q (c + 1) → Kp p q H H' → Q x H'
theorem ok_l_pick (T : Tx K mg) : Ok P w K mg base CX0 2 "_law_pick" ["_law_stream", "_law_some"] spPick :=
  ok_of T d_l_pick (by unfold fn; simp) rfl rfl rfl rfl rfl rfl (by decide +kernel) sc_l_pick (fun _ _ _ _ _ _ us hl => match us, hl with | [_, _], _ => rfl) (fun vs H Q E ⟨_, _, _, _, _, h, _⟩ => by subst h; rfl) (fun f cdv A outer s H vs Q E hr h => by
  obtain ⟨p, q, c, a, xs, rfl, st, hc, ha, ne, hl, k⟩ := h
  refine ⟨_, PSs.nox (pss_one (ps_ret (pe_ix (ix_listk K) (pv 1) (pe_c (ok_l_draw T) (hr.mono (by first | decide | omega)) pass0 (pa_cons (pv 0) (pa_cons (pe_callB (call_len_seqk K) (by rfl) (T.Z "len") bt_len (pa_cons (pv 1) pa_nil)) pa_nil))) (fun _ _ => rfl)))), ?_⟩
  have hpos : 0 < xs.length := List.length_pos_iff.mpr ne
  refine ⟨_, rfl, _, rfl, _, rfl, a, xs, rfl, .inl (SqL.of (hid_le _ _ ha)), p, q, _, c, rfl, by omega, by omega, st, hc, fun d H1 d0 d1 st1 s1 => ?_⟩
  have hd : d.toNat < xs.length := by omega
  have hx : xs[d.toNat]? = some xs[d.toNat] := List.getElem?_eq_getElem hd
  refine ⟨a, xs, d, xs[d.toNat], rfl, rfl, SqL.of (hid_le _ _ (s1 _ _ ha)), ?_, k _ _ _ hx st1 s1⟩
  exact at_of (by omega) hx)
theorem sc_l_mixed : FnScope ["_law_stream", "_law_some", "_law_left", "_law_k"] ["_law_stream", "_law_some"] (defScope s_l_mixed) := ⟨rfl, rfl, rfl, by decide +kernel, rfl, by decide +kernel, by decide +kernel⟩
def spMixed : Sp := fun vs H Q _ => ∃ p q c a xs, vs = [.ref p, .ref a] ∧ Stm H p q c ∧ c + xs.length ≤ 1000000000 ∧ hid [p, q] H a = some (.lst xs) ∧ xs.length ≤ 100 ∧ ∀ D ys H', H D = none → ys.Perm xs → hid [p, q] H' D = some (.lst ys) → Stm H' p q (c + xs.length) → Kp p q H H' → Q (.ref D) H'
theorem ok_l_mixed (T : Tx K mg) : Ok P w K mg base CX0 2 "_law_mixed" ["_law_stream", "_law_some"] spMixed :=
  ok_of T d_l_mixed (by unfold fn; simp) rfl rfl rfl rfl rfl rfl (by decide +kernel) sc_l_mixed (fun _ _ _ _ _ _ us hl => match us, hl with | [_, _], _ => rfl) (fun vs H Q E ⟨_, _, _, _, _, h, _⟩ => by subst h; rfl) (fun f cdv A outer s H vs Q E hr h => by
  obtain ⟨p, q, c, a, xs, rfl, st, hc, ha, hl, k⟩ := h
  refine ⟨_, PSs.nox (pss_cons (ps_set (i := 2) sc_l_mixed.nd rfl (by first | exact Or.inl rfl | exact Or.inr rfl) (pe_callTy (call_list_ofk K) (by rfl) (T.Z "list") bt_list (pa_cons (pv 1) pa_nil)))
    (pss_one (ps_ret (pe_lc (own := [("_law_k", 3)])  rfl sc_l_mixed.nd (pi_range1 rfl (T.Z "range") (pa_cons (pe_callB (call_len_seqk K) (by rfl) (T.Z "len") bt_len (pa_cons (pv 2) pa_nil)) pa_nil)) (blkOk_by (by kernel_rfl)) (fun _ _ _ _ _ => (pg_name (i := 3) sc_l_mixed.nd rfl (by first | exact Or.inl rfl | exact Or.inr rfl))) (fun _ _ _ _ _ => pts_nil) (fun _ _ _ _ _ => (pe_bmk K PySem.F.plainAttrs_list PySem.F.slot_list_pop PySem.F.type_list_pop mt_popAt (pv 2) (pa_cons (pe_c (ok_l_draw T) (hr.mono (by first | decide | omega)) pass0 (pa_cons (pv 0) (pa_cons (pe_callB (call_len_seqk K) (by rfl) (T.Z "len") bt_len (pa_cons (pv 2) pa_nil)) pa_nil))) pa_nil))))))), ?_⟩
  refine ⟨_, rfl, a, xs, rfl, .inl (SqL.of (hid_le _ _ ha)), fun l nl => ?_⟩
  have st1 : Stm (upd H l (.lst xs)) p q c := st.mono (same_new nl)
  obtain ⟨nlp, nlq⟩ := st.pn nl
  refine ⟨_, rfl, l, xs, rfl, .inl (SqL.of upd_same), _, rfl, by omega, by omega, fun D nD => ?_⟩
  obtain ⟨nDp, nDq⟩ := st1.pn nD
  have nDl : D ≠ l := (ne_of_none upd_same nD).symm
  have nDH : H D = none := by
    have := nD
    rw [upd_ne nDl] at this
    exact this
  rw [Int.toNat_natCast]
  refine lc_it (walk_range (lo := 0) (n := xs.length)) (fun i H' => ∃ taken rest, H' D = some (.lst taken) ∧ H' l = some (.lst rest) ∧ (taken ++ rest).Perm xs ∧ taken.length = i ∧ Stm H' p q (c + i) ∧ Kp p q H H')
    ⟨[], xs, upd_same, by rw [upd_ne nDl.symm, upd_same], .refl _, rfl, st1.mono (same_new nD), kp_mut (kp_mut (.refl _) nl) nDH⟩ (fun _ _ _ _ => trivial) ?_ ?_
  · rintro i x H1 H2 hi ⟨taken, rest, e1, e2, hp, ht, st2, s2⟩ ⟨rfl, rfl⟩
    have hrl : taken.length + rest.length = xs.length := by rw [← List.length_append]; exact hp.length_eq
    refine ⟨rfl, tyes ?_⟩
    refine ⟨_, rfl, .inl ⟨rfl, _, SqL.of e2⟩, _, rfl, _, rfl, l, rest, rfl, .inl (SqL.of e2), p, q, _, c + i, rfl, by omega, by omega, st2, by omega, fun d H3 d0 d1 st3 s3 => ?_⟩
    have hd : d.toNat < rest.length := by omega
    have e3 : H3 l = some (.lst rest) := kp_at s3 (by simp [nlp, nlq]) e2
    have e4 : H3 D = some (.lst taken) := kp_at s3 (by simp [nDp, nDq]) e1
    have ed : d = ((d.toNat : Nat) : Int) := by omega
    refine ⟨l, rest, d, d.toNat, rest[d.toNat], rfl, rfl, e3, by omega, by omega, (by conv => { lhs; rw [ed] }; exact seq_nat hd), List.getElem?_eq_getElem hd, ?_⟩
    refine ⟨taken, by rw [upd_ne nDl]; exact e4, small1000 (by omega), taken ++ [rest[d.toNat]], rest.eraseIdx d.toNat, upd_same, by rw [upd_ne nDl.symm, upd_same], ?_, by rw [List.length_append, ht]; rfl, (st3.upd nlp nlq).upd nDp nDq, kp_mut (kp_mut (Same.trans s2 s3) nl) nDH⟩
    refine List.Perm.trans ?_ hp
    rw [List.append_assoc]
    refine List.Perm.append_left _ ?_
    exact erase_perm hd
  · rintro H1 ⟨taken, rest, e1, e2, hp, ht, st2, s2⟩
    have hrl : taken.length + rest.length = xs.length := by rw [← List.length_append]; exact hp.length_eq
    have er : rest = [] := List.length_eq_zero_iff.mp (by omega)
    rw [er, List.append_nil] at hp
    exact k D taken H1 nDH hp (hid_of (by simp [nDp, nDq]) e1) st2 s2)
/-! ### hands -/
def six : List Str := ["a", "b", "c1", "d", "zed", "m9"]
theorem cut_take (xs : List V) (n : Nat) : cutV xs none (some (n : Int)) = xs.take n := by
  unfold cutV
  rw [HT.sIx_none, HT.sIx_nat, List.drop_zero, Nat.sub_zero]
  by_cases h : n ≤ xs.length
  · rw [Nat.min_eq_left h]
  · rw [Nat.min_eq_right (by omega), List.take_of_length_le (Nat.le_refl _), List.take_of_length_le (by omega)]
theorem sc_l_hands : FnScope ["_law_stream", "_law_many"] ["_law_stream", "_law_many"] (defScope s_l_hands) := ⟨rfl, rfl, rfl, by decide +kernel, rfl, by decide +kernel, by decide +kernel⟩
def spHands6 : Sp := fun vs H Q _ => ∃ p q c n, vs = [.ref p, .int ((n : Nat) : Int)] ∧ Stm H p q c ∧ c + 6 ≤ 1000000000 ∧ n ≤ 6 ∧ ∀ D ys H', H D = none → ys.Nodup → (∀ y ∈ ys, y ∈ six) → ys.length = n → Strs (hid [p, q] H') D ys → Stm H' p q (c + 6) → Kp p q H H' → Q (.ref D) H'
theorem ok_l_hands (T : Tx K mg) : Ok P w K mg base CX0 3 "_law_hands" ["_law_stream", "_law_many"] spHands6 :=
  ok_of T d_l_hands (by unfold fn; simp) rfl rfl rfl rfl rfl rfl (by decide +kernel) sc_l_hands (fun _ _ _ _ _ _ us hl => match us, hl with | [_, _], _ => rfl) (fun vs H Q E ⟨_, _, _, _, h, _⟩ => by subst h; rfl) (fun f cdv A outer s H vs Q E hr h => by
  obtain ⟨p, q, c, n, rfl, st, hc, hn, k⟩ := h
  refine ⟨_, PSs.nox (pss_one (ps_ret (pe_slice (sl_listk K) (pe_c (ok_l_mixed T) (hr.mono (by first | decide | omega)) pass0 (pa_cons (pv 0) (pa_cons (pe_lst (pa_cons pe_str (pa_cons pe_str (pa_cons pe_str (pa_cons pe_str (pa_cons pe_str (pa_cons pe_str pa_nil))))))) pa_nil))) po_none (po_some (pv 1))))), ?_⟩
  refine ⟨_, rfl, by show 6 ≤ sizeLine; decide, fun a na => ?_⟩
  obtain ⟨n1, n2⟩ := st.pn na
  refine ⟨p, q, c, a, six.map V.str, rfl, st.mono (same_new na), hc, hid_of (by simp [n1, n2]) upd_same, by decide, fun D ys H1 nD hp hD st1 s1 => ?_⟩
  refine ⟨_, rfl, _, rfl, D, ys, rfl, SqL.of (hid_le _ _ hD), fun r nr => ?_⟩
  have s0 : Kp p q H H1 := Same.trans (kp_new (.refl _) na) s1
  rw [cut_take]
  obtain ⟨zs, hz, ez⟩ : ∃ zs : List Str, zs.Perm six ∧ ys = zs.map V.str := by
    have hall : ∀ y ∈ ys, ∃ z ∈ six, y = V.str z := fun y hy => by
      obtain ⟨z, hz, e⟩ := List.mem_map.mp (hp.mem_iff.mp hy)
      exact ⟨z, hz, e.symm⟩
    refine ⟨ys.map fun v => match v with | .str z => z | _ => default, ?_, ?_⟩
    · have := hp.map (fun v => match v with | .str z => z | _ => default)
      rw [List.map_map] at this
      refine this.trans (.of_eq ?_)
      exact List.map_id _
    · rw [List.map_map]
      refine (List.map_id ys).symm.trans (List.map_congr_left fun y hy => ?_)
      obtain ⟨z, _, rfl⟩ := hall y hy
      rfl
  have nd6 : six.Nodup := by decide +kernel
  obtain ⟨m1, m2⟩ := st1.pn nr
  refine k r (zs.take n) _ (kp_no s0 st1 nr st) ((hz.nodup_iff.mpr nd6).sublist (List.take_sublist _ _)) (fun y hy => hz.mem_iff.mp (List.mem_of_mem_take hy)) ?_ ?_ (st1.mono (same_new nr)) (kp_new s0 nr)
  · rw [List.length_take, hz.length_eq]
    exact Nat.min_eq_left hn
  · refine hid_of (by simp [m1, m2]) ?_
    rw [upd_same, ez, List.map_take])
end
end K9

/-! ## L3 -/
set_option maxHeartbeats 2000000
namespace K9
open PySem PySem.Spec PyProof.Rows L2
theorem perm_str {ys : List V} {l : List Str} (hp : ys.Perm (l.map V.str)) : ∃ zs : List Str, zs.Perm l ∧ ys = zs.map V.str := by
  have hall : ∀ y ∈ ys, ∃ z ∈ l, y = V.str z := fun y hy => by
    obtain ⟨z, hz, e⟩ := List.mem_map.mp (hp.mem_iff.mp hy)
    exact ⟨z, hz, e.symm⟩
  refine ⟨ys.map fun v => match v with | .str z => z | _ => default, ?_, ?_⟩
  · have := hp.map (fun v => match v with | .str z => z | _ => default)
    rw [List.map_map] at this
    refine this.trans (.of_eq ?_)
    exact List.map_id _
  · rw [List.map_map]
    refine (List.map_id ys).symm.trans (List.map_congr_left fun y hy => ?_)
    obtain ⟨z, _, rfl⟩ := hall y hy
    rfl
theorem mkv_put {ad : Str → Addr} {ks : List Str} {k : Str} {b : Addr} (h : k ∉ ks) : putK (mkv ks ad) (Sum.inr k : Key) (.ref b) = mkv (ks ++ [k]) (fun x => if x = k then b else ad x) := by
  rw [putK_new _ (valV_mkv_none h)]
  unfold mkv
  rw [List.map_append]
  show _ = _ ++ [((Sum.inr k : Key), V.ref (if k = k then b else ad k))]
  rw [if_pos rfl]
  refine congrArg (· ++ _) (List.map_congr_left fun x hx => ?_)
  show _ = ((Sum.inr x : Key), V.ref (if x = k then b else ad x))
  rw [if_neg (show ¬ x = k from fun e => h (e ▸ hx))]
theorem merge_mkv {ad : Str → Addr} : ∀ (ks pre : List Str), (pre ++ ks).Nodup → mergeK (mkv pre ad) (mkv ks ad) = mkv (pre ++ ks) ad
  | [], pre, _ => by
    rw [List.append_nil]
    rfl
  | k :: ks, pre, nd => by
    have nk : k ∉ pre := fun h => by
      have := (List.nodup_append.mp nd).2.2 k h k List.mem_cons_self
      exact this rfl
    have e1 : mergeK (mkv pre ad) (mkv (k :: ks) ad) = mergeK (putK (mkv pre ad) (Sum.inr k : Key) (.ref (ad k))) (mkv ks ad) := rfl
    have e2 : mkv (pre ++ [k]) (fun x => if x = k then ad k else ad x) = mkv (pre ++ [k]) ad := List.map_congr_left fun x _ => by
      show ((Sum.inr x : Key), V.ref (if x = k then ad k else ad x)) = ((Sum.inr x : Key), V.ref (ad x))
      by_cases e : x = k
      · rw [if_pos e, e]
      · rw [if_neg e]
    rw [e1, mkv_put nk, e2, merge_mkv ks (pre ++ [k]) (by rw [List.append_assoc]; exact nd), List.append_assoc]
    rfl
section
variable {P : Program} {w : World} {K : PySem.W.Frag} {mg : Str → Option Value} {base : Heap}
theorem sc_l_each_once : FnScope ["_law_things", "_law_found", "_law_thing"] ["_law_things"] (defScope s_l_each_once) := ⟨rfl, rfl, rfl, by decide +kernel, rfl, by decide +kernel, by decide +kernel⟩
def spOnce : Sp := fun vs H Q _ => ∃ a xs, vs = [.ref a] ∧ Strs H a xs ∧ xs.length ≤ 100 ∧ ∀ r ys H', H r = none → Same H H' → Strs H' r ys → ys.Nodup → ys.length ≤ xs.length → (∀ y, y ∈ ys ↔ y ∈ xs) → Q (.ref r) H'
theorem ok_l_each_once (T : Tx K mg) : Ok P w K mg base CX0 1 "_law_each_once" ["_law_things"] spOnce :=
  ok_of T d_l_each_once (by unfold fn; simp) rfl rfl rfl rfl rfl rfl (by decide +kernel) sc_l_each_once (fun _ _ _ _ _ _ us hl => match us, hl with | [_], _ => rfl) (fun vs H Q E ⟨_, _, h, _⟩ => by subst h; rfl) (fun f cdv A outer s H vs Q E hr h => by
  obtain ⟨a, xs, rfl, ha, hl, k⟩ := h
  refine ⟨_, PSs.nox (pss_cons (ps_set (i := 1) sc_l_each_once.nd rfl (by first | exact Or.inl rfl | exact Or.inr rfl) (pe_lst pa_nil))
    (pss_cons (ps_for PassesOwn.never rfl (pi_listk K (pv 0)) (pg_name (i := 2) sc_l_each_once.nd rfl (by first | exact Or.inl rfl | exact Or.inr rfl))
      (pss_one (ps_if (pt_cmpR (op_notIn_seqk K) (pv 2) (pv 1) (by rfl)) (pss_one (ps_expr (pe_bmk K PySem.F.plainAttrs_list PySem.F.slot_list_append PySem.F.type_list_append mt_append (pv 1) (pa_cons (pv 2) pa_nil)))) pss_nil)))
    (pss_one (ps_ret (pv 1))))), ?_⟩
  refine ⟨Nat.zero_le _, fun l nl => ?_⟩
  refine ⟨_, rfl, a, rfl, ⟨_, SqL.of (same_new nl _ _ ha)⟩, for_list (K := K) (a := a) (xs := xs.map V.str) (fun i σ H' => ∃ v2 ys, σ = [some (.ref a), some (.ref l), v2] ∧ Same H H' ∧ Strs H' l ys ∧ ys.Nodup ∧ ys.length ≤ i ∧ ∀ y, y ∈ ys ↔ y ∈ xs.take i)
    ⟨none, [], rfl, same_new nl, upd_same, List.nodup_nil, Nat.le_refl _, fun y => by simp⟩ (fun i σ H' _ ⟨_, _, _, s, _⟩ => SqL.of (s _ _ ha)) ?_ ?_⟩
  · rintro i y σ H1 hi ⟨v2, ys, rfl, s1, hy1, nd, hyl, hmem⟩
    obtain ⟨x, hx, rfl⟩ := map_at hi
    refine ⟨_, rfl, _, rfl, l, _, rfl, .inl (SqL.of hy1), rfl, flat_strs _, _, rfl, ?_⟩
    rw [inV_str]
    have htk : ∀ z, z ∈ xs.take (i + 1) ↔ z ∈ xs.take i ∨ z = x := fun z => by rw [take_more hx, List.mem_append, List.mem_singleton]
    by_cases c : x ∈ ys
    · refine iteBF (by show (!decide (x ∈ ys)) = false; rw [decide_eq_true c]; rfl) ?_
      refine ⟨_, ys, rfl, s1, hy1, nd, by omega, fun z => ?_⟩
      rw [htk, hmem]
      exact ⟨.inl, fun h => h.elim id fun e => by rw [e]; exact (hmem x).mp c⟩
    · refine iteB (by show (!decide (x ∈ ys)) = true; rw [decide_eq_false c]; rfl) ?_
      have := at_lt hx
      refine ⟨_, rfl, .inl ⟨rfl, _, SqL.of hy1⟩, _, rfl, l, _, _, rfl, rfl, hy1, by rw [List.length_map]; exact small1000 (by omega), ?_⟩
      refine ⟨_, ys ++ [x], rfl, same_mut s1 nl, ?_, ?_, by rw [List.length_append]; exact Nat.add_le_add_right hyl 1, fun z => ?_⟩
      · show upd H1 l _ l = _
        rw [upd_same, List.map_append]
        rfl
      · rw [List.nodup_append]
        exact ⟨nd, by simp, fun a ha b hb e => c (by rw [List.mem_singleton.mp hb] at e; rw [← e]; exact ha)⟩
      · rw [htk, List.mem_append, List.mem_singleton, hmem]
  · rintro σ H1 ⟨v2, ys, rfl, s1, hy1, nd, hyl, hmem⟩
    rw [List.length_map] at hyl
    rw [List.length_map, List.take_length] at hmem
    exact ⟨_, rfl, k l ys H1 nl s1 hy1 nd hyl hmem⟩)
theorem sc_l_plain_map : FnScope ["_law_one", "_law_hand"] ["_law_one"] (defScope s_l_plain_map) := ⟨rfl, rfl, rfl, by decide +kernel, rfl, by decide +kernel, by decide +kernel⟩
def spPlain : Sp := fun vs H Q _ => ∃ d hs m S, vs = [.ref d] ∧ MapP H hs d m ∧ hs.Nodup ∧ hs.length ≤ 60 ∧ (∀ k ∈ hs, (m k).length < 60) ∧ (∀ b ∈ S, ∃ o, H b = some o) ∧ ∀ r H', H r = none → Same H H' → MapA (hid S H') (srt hs) r (srtm m) → Q (.ref r) H'
theorem ok_l_plain_map (T : Tx K mg) : Ok P w K mg base CX0 1 "_law_plain_map" ["_law_one"] spPlain :=
  ok_of T d_l_plain_map (by unfold fn; simp) rfl rfl rfl rfl rfl rfl (by decide +kernel) sc_l_plain_map (fun _ _ _ _ _ _ us hl => match us, hl with | [_], _ => rfl) (fun vs H Q E ⟨_, _, _, _, h, _⟩ => by subst h; rfl) (fun f cdv A outer s H vs Q E hr h => by
  obtain ⟨d, hs, m, S, rfl, ⟨ks, ad, hp, hd, ha⟩, nd, hl, hlen, hS, k⟩ := h
  have hu := hu_of hr
  refine ⟨_, PSs.nox (pss_one (ps_ret (pe_callTy (call_dictPk K rfl) (by rfl) (T.Z "dict") bt_dict (pa_cons (pe_lc (own := [("_law_hand", 1)])  rfl sc_l_plain_map.nd (pi_listk K (pe_callB (call_sortedD rfl) (by rfl) (T.Z "sorted") bt_sorted (pa_cons (pv 0) pa_nil))) (blkOk_by (by kernel_rfl)) (fun _ _ _ _ _ => (pg_name (i := 1) sc_l_plain_map.nd rfl (by first | exact Or.inl rfl | exact Or.inr rfl))) (fun _ _ _ _ _ => pts_nil) (fun _ _ _ _ _ => (pe_tup (pa_cons (pv 1) (pa_cons (pe_callB (cr_sortedSk K) (by rfl) (T.Z "sorted") bt_sorted (pa_cons (pe_dget hu (pv 0) (pv 1) (fun _ _ => rfl)) pa_nil)) pa_nil))))) pa_nil)))), ?_⟩
  refine ⟨_, rfl, d, _, ks, rfl, .of hd, mkv_keys ks ad, by rw [hp.length_eq]; omega, fun ys r hp2 hso nr => ?_⟩
  rw [show ys = srt hs from srt_is (hp2.trans hp) hso]
  refine ⟨r, rfl, ⟨_, SqL.of upd_same⟩, ?_⟩
  have s1 := same_new (o := .lst ((srt hs).map V.str)) nr
  refine lcd (walk_list (xs := (srt hs).map V.str)) (by rw [List.length_map, srt_len]; omega) S (fun _ => true) (fun D i H' => Same (upd H r (.lst ((srt hs).map V.str))) H') (fun i y H' => ∃ k t b, (srt hs)[i]? = some k ∧ y = .ref t ∧ H' t = some (.tup [.str k, .ref b]) ∧ Strs H' b (srt (m k)))
    (fun i y H1 H2 s ⟨k, t, b, e1, e2, e3, e4⟩ => ⟨k, t, b, e1, e2, s _ _ e3, s _ _ e4⟩) (fun D o hD => same_new hD) (fun D i H' o hD s => same_mut s hD) (fun D i H' hD hi s => SqL.of (s _ _ upd_same)) ?_ ?_
  · rintro D i y H2 H3 acc hD hi s2 hA ⟨rfl, hy⟩ Kt Kf kt kf
    obtain ⟨x, hx, rfl⟩ := map_at hy
    have hxm : x ∈ hs := mem_srt.mp (at_mem hx)
    have hxk : x ∈ ks := hp.mem_iff.mpr hxm
    have s12 := s1.trans s2
    have hax := s12 _ _ (ha x hxm)
    refine ⟨rfl, tyes ?_⟩
    refine ⟨_, rfl, _, rfl, _, rfl, d, _, rfl, (valV_mkv hxk ▸ DGet.k (k := Sum.inr x) (s12 _ _ hd)), ad x, m x, rfl, SqL.of hax, by have := hlen x hxm; omega, fun zs b hpm hso2 nb => ?_⟩
    rw [srt_is hpm hso2]
    refine ⟨by show 2 ≤ sizeLine; decide, fun t nt => ?_⟩
    have s3 := same_new (o := .lst ((srt (m x)).map V.str)) nb
    have s4 := same_new (o := .tup [.str x, .ref b]) nt
    have hA3 := s3 _ _ hA
    refine kt rfl _ _ (s2.trans (s3.trans s4)) (s4 _ _ hA3) (same_hid (s3.trans s4)) ⟨x, t, b, hx, rfl, hid_of ?_ upd_same, hid_of ?_ (s4 _ _ upd_same)⟩
    · intro z
      rcases List.mem_cons.mp z with e | e
      · exact ne_of_none hA3 nt e.symm
      · obtain ⟨o, ho⟩ := hS t e
        exact ne_of_none (s3 _ _ (s12 _ _ ho)) nt rfl
    · intro z
      rcases List.mem_cons.mp z with e | e
      · exact ne_of_none hA nb e.symm
      · obtain ⟨o, ho⟩ := hS b e
        exact ne_of_none (s12 _ _ ho) nb rfl
  · intro D H2 ys hD s2 hA hpp
    rw [List.length_map, List.filter_eq_self.mpr (fun _ _ => rfl)] at hpp
    have hlen2 := hpp.length
    rw [List.length_range] at hlen2
    have hex : ∀ x, ∃ (t b : Addr), x ∈ srt hs → ∃ (i : Nat), (srt hs)[i]? = some x ∧ ys[i]? = some (V.ref t) ∧ H2 t = some (.tup [.str x, .ref b]) ∧ Strs (hid S H2) b (srt (m x)) := fun x => by
      by_cases hx : x ∈ srt hs
      · obtain ⟨i, hi, e⟩ := List.mem_iff_getElem.mp hx
        have ei : (srt hs)[i]? = some x := by rw [← e]; exact List.getElem?_eq_getElem hi
        have er : (List.range (srt hs).length)[i]? = some i := List.getElem?_range hi
        obtain ⟨y, h1, k', t, b, h2, h3, h4, h5⟩ := paired_at hpp er
        rw [ei] at h2
        cases h2
        exact ⟨t, b, fun _ => ⟨i, ei, by rw [h1, h3], hid_le _ _ h4, hid_sub (fun _ z => List.mem_cons_of_mem _ z) _ _ h5⟩⟩
      · exact ⟨0, 0, fun z => absurd z hx⟩
    have ndS := srt_nd nd
    refine ⟨D, (srt hs).map (fun x => Classical.choose (hex x)), mkv (srt hs) (fun x => Classical.choose (Classical.choose_spec (hex x))), rfl, SqL.of ?_, ?_, fun r2 nr2 => ?_⟩
    · rw [hA, List.map_map]
      refine congrArg (fun l => some (HO.lst l)) ?_
      apply List.ext_getElem?
      intro i
      by_cases hi : i < (srt hs).length
      · have ei : (srt hs)[i]? = some (srt hs)[i] := List.getElem?_eq_getElem hi
        obtain ⟨j, h1, h2, _⟩ := Classical.choose_spec (Classical.choose_spec (hex (srt hs)[i])) (List.getElem_mem hi)
        have ej : j = i := nd_ix ndS h1 ei
        subst ej
        rw [h2, List.getElem?_map, ei]
        rfl
      · rw [List.getElem?_eq_none (by omega), List.getElem?_eq_none (by rw [List.length_map]; omega)]
    · have gen : ∀ l : List Str, (∀ x ∈ l, x ∈ srt hs) → Paired (fun p (kv : Key × V) => SqT K H2 p [kV kv.1, kv.2]) (l.map fun x => Classical.choose (hex x)) (mkv l (fun x => Classical.choose (Classical.choose_spec (hex x)))) := by
        intro l
        induction l with
        | nil => intro _; exact .nil
        | cons x l ih =>
          intro h
          obtain ⟨j, h1, h2, h3, h4⟩ := Classical.choose_spec (Classical.choose_spec (hex x)) (h x List.mem_cons_self)
          exact .cons (SqT.of h3) (ih fun y hy => h y (List.mem_cons_of_mem _ hy))
      exact gen _ fun _ h => h
    · have em := merge_mkv (ad := fun x => Classical.choose (Classical.choose_spec (hex x))) (srt hs) [] (by simpa using ndS)
      have em2 : mergeK [] (mkv (srt hs) fun x => Classical.choose (Classical.choose_spec (hex x))) = mkv (srt hs) fun x => Classical.choose (Classical.choose_spec (hex x)) := em
      rw [em2]
      refine k r2 _ (s1.free (s2.free nr2)) ((s1.trans s2).trans (same_new nr2)) ⟨_, hid_of (fun z => ?_) upd_same, fun x hx => ?_⟩
      · obtain ⟨o, ho⟩ := hS r2 z
        exact ne_of_none (s2 _ _ (s1 _ _ ho)) nr2 rfl
      obtain ⟨j, h1, h2, h3, h4⟩ := Classical.choose_spec (Classical.choose_spec (hex x)) hx
      exact same_hid (same_new nr2) _ _ h4)
end
end K9

/-! ## L4 -/
set_option maxHeartbeats 2000000
namespace K9
open PySem PySem.Spec PyProof.Rows L2
theorem not_take {xs : List Str} {i : Nat} {x : Str} (nd : xs.Nodup) (h : xs[i]? = some x) : x ∉ xs.take i := fun z => by
  obtain ⟨j, hj, ej⟩ := List.mem_iff_getElem.mp z
  rw [List.length_take] at hj
  rw [List.getElem_take] at ej
  have := nd_ix nd (show xs[j]? = some x by rw [← ej]; exact List.getElem?_eq_getElem _) h
  omega
section
variable {P : Program} {w : World} {K : PySem.W.Frag} {mg : Str → Option Value} {base : Heap}
theorem sc_l_map : FnScope ["_law_stream", "_law_hands_here", "_law_way", "_law_found", "_law_star", "_law_hand", "_law_heard", "_law_other", "_law_third", "_law_half"] ["_law_stream", "_law_hands_here"] (defScope s_l_map) := ⟨rfl, rfl, rfl, by decide +kernel, rfl, by decide +kernel, by decide +kernel⟩
def spMap : Sp := fun vs H Q _ => ∃ p q c a xs, ∃ S : List Addr, vs = [.ref p, .ref a] ∧ (∀ b ∈ S, ∃ o, hid [p, q] H b = some o) ∧ Stm H p q c ∧ c + 100 ≤ 1000000000 ∧ Strs (hid [p, q] H) a xs ∧ xs.Nodup ∧ xs ≠ [] ∧ xs.length ≤ 4 ∧ ∀ d m c' H', H d = none → MapP (hid (S ++ [p, q]) H') xs d m → GM xs m → (∀ k ∈ xs, (m k).length ≤ 5) → Stm H' p q c' → c' ≤ c + 100 → Kp p q H H' → Q (.ref d) H'
/-- a map half made -/
structure MapInv (xs zs : List Str) (S : List Addr) (H0 : Hp) (p q fd D : Addr) (i : Nat) (H : Hp) : Prop where
  ex : ∃ (m : Mp) (ad : Str → Addr), H fd = some (.dK (mkv (zs.take i) ad)) ∧ ∀ k ∈ zs.take i, Strs (hid [fd, p, q] H) (ad k) (m k) ∧ ad k ∉ S ∧ k ∈ m k ∧ (∀ o ∈ m k, o ∈ xs) ∧ (m k).Nodup ∧ (m k).length ≤ 5
  l : Strs H D zs
  same : Kp p q H0 H
theorem ok_l_map (T : Tx K mg) : Ok P w K mg base CX0 3 "_law_map" ["_law_stream", "_law_hands_here"] spMap :=
  ok_of T d_l_map (by unfold fn; simp) rfl rfl rfl rfl rfl rfl (by decide +kernel) sc_l_map (fun _ _ _ _ _ _ us hl => match us, hl with | [_, _], _ => rfl) (fun vs H Q E ⟨_, _, _, _, _, _, h, _⟩ => by subst h; rfl) (fun f cdv A outer s H vs Q E hr h => by
  obtain ⟨p, q, c, a, xs, S, rfl, hS, st, hc, ha, nd, ne, hl, k⟩ := h
  have hu := hu_of hr
  refine ⟨_, PSs.nox (pss_cons (ps_par (i := 2) (j := 3) rfl sc_l_map.nd rfl rfl (by decide) rfl rfl (pa_cons (pe_c (ok_l_draw T) (hr.mono (by first | decide | omega)) pass0 (pa_cons (pv 0) (pa_cons pe_int pa_nil))) (pa_cons pe_dnewK pa_nil)) (by rfl))
    (pss_cons (ps_set (i := 4) sc_l_map.nd rfl (by first | exact Or.inl rfl | exact Or.inr rfl) (pe_c (ok_l_pick T) (hr.mono (by first | decide | omega)) pass0 (pa_cons (pv 0) (pa_cons (pv 1) pa_nil))))
    (pss_cons (ps_for PassesOwn.never rfl (pi_listk K (pe_c (ok_l_mixed T) (hr.mono (by first | decide | omega)) pass0 (pa_cons (pv 0) (pa_cons (pv 1) pa_nil)))) (pg_name (i := 5) sc_l_map.nd rfl (by first | exact Or.inl rfl | exact Or.inr rfl))
      (pss_cons (ps_set (i := 6) sc_l_map.nd rfl (by first | exact Or.inl rfl | exact Or.inr rfl) (pe_lst (pa_cons (pv 5) pa_nil)))
      (pss_cons (ps_for PassesOwn.never rfl (pi_listk K (pv 1)) (pg_name (i := 7) sc_l_map.nd rfl (by first | exact Or.inl rfl | exact Or.inr rfl))
        (pss_cons (ps_par (i := 8) (j := 9) rfl sc_l_map.nd rfl rfl (by decide) rfl rfl (pa_cons (pe_c (ok_l_draw T) (hr.mono (by first | decide | omega)) pass0 (pa_cons (pv 0) (pa_cons pe_int pa_nil))) (pa_cons (pe_c (ok_l_draw T) (hr.mono (by first | decide | omega)) pass0 (pa_cons (pv 0) (pa_cons pe_int pa_nil))) pa_nil)) (by rfl))
        (pss_one (ps_if (PW.pt (pw_and (pt_cmpR op_ne (pv 7) (pv 5) (nomark _)) (pw_and1 (PW.pt (pw_or (pt_cmpR op_eq (pv 2) pe_int (nomark _)) (pw_or1 (pt_val (pe_ix (ix_listk K) (pe_lst (pa_cons (pe_cmpR op_eq (pv 7) (pv 4) (nomark _)) (pa_cons (pe_cmpR op_eq (pv 8) pe_int (nomark _)) (pa_cons (pe_cmpR op_eq (pv 9) pe_int (nomark _)) (pa_cons (pe_cmpR op_gt (pv 8) pe_int (nomark _)) pa_nil))))) (pe_op op_mod (pv 2) pe_int) (fun _ _ => rfl))))))))) (pss_one (ps_expr (pe_bmk K PySem.F.plainAttrs_list PySem.F.slot_list_append PySem.F.type_list_append mt_append (pv 6) (pa_cons (pv 7) pa_nil)))) pss_nil))))
      (pss_one (ps_dput hu (pv 3) (pv 5) (pe_c (ok_l_mixed T) (hr.mono (by first | decide | omega)) pass0 (pa_cons (pv 0) (pa_cons (pv 6) pa_nil))) rfl)))))
    (pss_one (ps_ret (pv 3)))))), ?_⟩
  refine ⟨_, rfl, p, q, _, c, rfl, by omega, by omega, st, by omega, fun way H1 w0 w1 st1 s1 => ?_⟩
  intro fd nfd
  obtain ⟨nfp, nfq⟩ := st1.pn nfd
  have s2 := kp_new (o := .dK []) s1 nfd
  have st2 := st1.mono (same_new (o := .dK []) nfd)
  have hfd0 : H fd = none := kp_no s1 st1 nfd st
  refine ⟨_, _, rfl, ?_⟩
  refine ⟨_, rfl, _, rfl, p, q, c + 1, a, xs.map V.str, rfl, st2, by omega, s2 _ _ ha, by simpa using ne, by rw [List.length_map]; omega, fun j x H2 hx st3 s3 => ?_⟩
  obtain ⟨star, hstar, rfl⟩ := map_at hx
  have s03 := Same.trans s2 s3
  refine ⟨_, rfl, _, rfl, p, q, c + 1 + 1, a, xs.map V.str, rfl, st3, by rw [List.length_map]; omega, s03 _ _ ha, by rw [List.length_map]; omega, fun D ys H3 nD hp hD st4 s4 => ?_⟩
  obtain ⟨zs, hz, rfl⟩ := perm_str hp
  have s04 := Same.trans s03 s4
  have hfd2 : H2 fd = some (.dK []) := kp_at s3 (by simp [nfp, nfq]) upd_same
  have hfd3 : H3 fd = some (.dK []) := kp_at s4 (by simp [nfp, nfq]) hfd2
  have ndz : zs.Nodup := hz.nodup_iff.mpr nd
  have hzl := hz.length_eq
  rw [List.length_map] at st4
  refine ⟨D, rfl, ⟨_, SqL.of (hid_le _ _ hD)⟩, for_list (K := K) (a := D) (xs := zs.map V.str) (fun i σ H' => ∃ c' v5 v6 v7 v8 v9, σ = [some (.ref p), some (.ref a), some (.int way), some (.ref fd), some (.str star), v5, v6, v7, v8, v9] ∧ Stm H' p q c' ∧ c' ≤ c + 6 + i * 13 ∧ MapInv xs zs S H p q fd D i H')
    ⟨_, none, none, none, none, none, rfl, st4, by omega, ⟨fun _ => [], fun _ => 0, hfd3, fun k hk => by simp at hk⟩, hid_le _ _ hD, s04⟩ (fun i σ H' _ ⟨_, _, _, _, _, _, _, _, _, I⟩ => SqL.of I.l) ?_ ?_⟩
  · rintro i y σ H4 hi ⟨c', v5, v6, v7, v8, v9, rfl, st5, hc5, ⟨⟨m, ad, hf5, hm5⟩, hD5, s05⟩⟩
    obtain ⟨x, hx, rfl⟩ := map_at hi
    have hxm : x ∈ xs := hz.mem_iff.mp (at_mem hx)
    have hilt := at_lt hx
    refine ⟨_, rfl, by show 1 ≤ sizeLine; decide, fun h nh => ?_⟩
    obtain ⟨nhp, nhq⟩ := st5.pn nh
    have st6 := st5.mono (same_new (o := .lst [.str x]) nh)
    have s56 : Same (hid [h, p, q] H4) (hid [h, p, q] (upd H4 h (.lst [.str x]))) := same_hid (same_new nh)
    have sub : ∀ b ∈ [p, q], b ∈ [h, p, q] := fun b hb => List.mem_cons_of_mem _ hb
    have hH0 : H h = none := kp_no s05 st5 nh st
    have ha4 := s05 _ _ ha
    have ha6 : Strs (hid [h, p, q] H4) a xs := by
      refine hid_of ?_ (hid_at ha4).2
      have := ne_of_none (hid_at ha4).2 nh
      have h1 := (hid_at ha4).1
      simp only [List.mem_cons, List.not_mem_nil, or_false, not_or] at h1 ⊢
      exact ⟨this, h1⟩
    refine ⟨_, rfl, a, rfl, ⟨_, SqL.of (hid_le _ _ (s56 _ _ ha6))⟩, for_list (K := K) (a := a) (xs := xs.map V.str) (fun j σ H' => ∃ c'' v7 v8 v9 us, σ = [some (.ref p), some (.ref a), some (.int way), some (.ref fd), some (.str star), some (.str x), some (.ref h), v7, v8, v9] ∧ Stm H' p q c'' ∧ c'' ≤ c' + 2 * j ∧ Same (hid [h, p, q] H4) (hid [h, p, q] H') ∧ Strs H' h (x :: us) ∧ us.length ≤ j ∧ us.Nodup ∧ (∀ u ∈ us, u ≠ x ∧ u ∈ xs.take j))
      ⟨c', v7, v8, v9, [], rfl, st6, by omega, s56, upd_same, Nat.le_refl _, List.nodup_nil, fun u hu => by simp at hu⟩ (fun j σ H' _ ⟨_, _, _, _, _, _, _, _, s, _⟩ => SqL.of (hid_le _ _ (s _ _ ha6))) ?_ ?_⟩
    · rintro j y σ H5 hj ⟨c'', v7, v8, v9, us0, rfl, st7, hc7, s7, hh7, hul, und, hum⟩
      obtain ⟨o, ho, rfl⟩ := map_at hj
      have hjl := at_lt ho
      have hi4 : i * 13 ≤ 3 * 13 := Nat.mul_le_mul_right _ (by omega)
      refine ⟨_, rfl, p, q, _, c'', rfl, by omega, by omega, st7, by omega, fun third H6 t0 t1 st8 s8 => ?_⟩
      refine ⟨_, rfl, p, q, _, c'' + 1, rfl, by omega, by omega, st8, by omega, fun half H7 hh0 hh1 st9 s9 => ?_⟩
      refine ⟨_, _, rfl, ?_⟩
      have s78 : Same (hid [h, p, q] H4) (hid [h, p, q] H7) := Same.trans s7 (hid_more sub (Same.trans s8 s9))
      have hh9 : Strs H7 h (x :: us0) := kp_at (Same.trans s8 s9) (by simp [nhp, nhq]) hh7
      -- whatever the test says
      have no : ∀ {H8 : Hp} {σ : L2.St}, Same H7 H8 → σ = [some (.ref p), some (.ref a), some (.int way), some (.ref fd), some (.str star), some (.str x), some (.ref h), some (.str o), some (.int third), some (.int half)] → ∃ c'' v7 v8 v9 us, σ = [some (.ref p), some (.ref a), some (.int way), some (.ref fd), some (.str star), some (.str x), some (.ref h), v7, v8, v9] ∧ Stm H8 p q c'' ∧ c'' ≤ c' + 2 * (j + 1) ∧ Same (hid [h, p, q] H4) (hid [h, p, q] H8) ∧ Strs H8 h (x :: us) ∧ us.length ≤ j + 1 ∧ us.Nodup ∧ (∀ u ∈ us, u ≠ x ∧ u ∈ xs.take (j + 1)) := by
        intro H8 σ s e
        refine ⟨c'' + 1 + 1, _, _, _, us0, e, st9.mono s, by omega, Same.trans s78 (same_hid s), s _ _ hh9, by omega, und, fun u hu => ⟨(hum u hu).1, ?_⟩⟩
        rw [take_more ho]
        exact List.mem_append_left _ (hum u hu).2
      have nxt : o ≠ x → ∀ {H8 : Hp} {σ : L2.St}, Same H7 H8 → σ = [some (.ref p), some (.ref a), some (.int way), some (.ref fd), some (.str star), some (.str x), some (.ref h), some (.str o), some (.int third), some (.int half)] → ∃ c'' v7 v8 v9 us, σ = [some (.ref p), some (.ref a), some (.int way), some (.ref fd), some (.str star), some (.str x), some (.ref h), v7, v8, v9] ∧ Stm (upd H8 h (.lst ((V.str x :: us0.map V.str) ++ [V.str o]))) p q c'' ∧ c'' ≤ c' + 2 * (j + 1) ∧ Same (hid [h, p, q] H4) (hid [h, p, q] (upd H8 h (.lst ((V.str x :: us0.map V.str) ++ [V.str o])))) ∧ Strs (upd H8 h (.lst ((V.str x :: us0.map V.str) ++ [V.str o]))) h (x :: us) ∧ us.length ≤ j + 1 ∧ us.Nodup ∧ (∀ u ∈ us, u ≠ x ∧ u ∈ xs.take (j + 1)) := by
        intro eo H8 σ s e
        refine ⟨c'' + 1 + 1, _, _, _, us0 ++ [o], e, (st9.mono s).upd nhp nhq, by omega, ?_, ?_, by rw [List.length_append]; exact Nat.add_le_add_right hul 1, ?_, fun u hu => ?_⟩
        · rw [hid_in (by simp)]
          exact Same.trans s78 (same_hid s)
        · show upd H8 h _ h = _
          rw [upd_same, List.map_cons, List.map_append]
          rfl
        · rw [List.nodup_append]
          refine ⟨und, by simp, fun b hb b' hb' eb => ?_⟩
          rw [List.mem_singleton.mp hb'] at eb
          subst eb
          exact not_take nd ho (hum _ hb).2
        · rw [take_more ho]
          rcases List.mem_append.mp hu with hu | hu
          · exact ⟨(hum u hu).1, List.mem_append_left _ (hum u hu).2⟩
          · rw [List.mem_singleton.mp hu]
            exact ⟨eo, by simp⟩
      have hsz : ((x :: us0).map V.str).length < sizeLine := by
        rw [List.length_map, List.length_cons]
        exact small1000 (by omega)
      refine ⟨_, rfl, _, rfl, rfl, _, rfl, ?_⟩
      by_cases eo : o = x
      · refine iteBF (by rw [decide_eq_true (show V.str o = V.str x by rw [eo])]; rfl) (iteF (no (.refl _) rfl))
      · refine iteB (by rw [decide_eq_false (show ¬ V.str o = V.str x from fun e => eo (V.str.inj e))]; rfl) ?_
        refine ⟨_, rfl, rfl, _, rfl, ?_⟩
        by_cases ew : way = 5
        · refine iteB (by rw [decide_eq_true (show V.int way = V.int 5 by rw [ew])]) (iteT ?_)
          exact ⟨_, rfl, .inl ⟨rfl, _, SqL.of hh9⟩, _, rfl, h, _, _, rfl, rfl, hh9, hsz, nxt eo (.refl _) rfl⟩
        · refine iteBF (decide_eq_false (show ¬ V.int way = V.int 5 from fun e => ew (V.int.inj e))) ?_
          refine ⟨_, rfl, _, rfl, rfl, _, rfl, rfl, _, rfl, rfl, _, rfl, _, _, rfl, rfl, by show 4 ≤ sizeLine; decide, fun bl nbl => ?_⟩
          have sB := same_new (o := .lst [V.bl (decide (V.str o = V.str star)), V.bl (decide (V.int third = V.int 0)), V.bl (decide (V.int half = V.int 0)), V.bl (decide ((0 : Int) < third))]) nbl
          obtain ⟨b, hb⟩ : ∃ b, [V.bl (decide (V.str o = V.str star)), V.bl (decide (V.int third = V.int 0)), V.bl (decide (V.int half = V.int 0)), V.bl (decide ((0 : Int) < third))][(way % 4).toNat]? = some (.bl b) := by
            have h4 : (way % 4).toNat < 4 := by omega
            generalize (way % 4).toNat = n at h4
            match n, h4 with
            | 0, _ => exact ⟨_, rfl⟩
            | 1, _ => exact ⟨_, rfl⟩
            | 2, _ => exact ⟨_, rfl⟩
            | 3, _ => exact ⟨_, rfl⟩
          refine ⟨_, rfl, _, _, rfl, rfl, (by decide : (0 : Int) < 4), bl, _, _, _, rfl, rfl, SqL.of upd_same, at_of (by omega) hb, b, rfl, ?_⟩
          cases b with
          | false => exact iteF (no sB rfl)
          | true =>
            refine iteT ?_
            have hh10 := sB _ _ hh9
            exact ⟨_, rfl, .inl ⟨rfl, _, SqL.of hh10⟩, _, rfl, h, _, _, rfl, rfl, hh10, hsz, nxt eo sB rfl⟩
    · rintro σ H5 ⟨c'', v7, v8, v9, us, rfl, st7, hc7, s7, hh7, hul, und, hum⟩
      rw [List.length_map] at hc7 hul
      have hi4 : i * 13 ≤ 3 * 13 := Nat.mul_le_mul_right _ (by omega)
      refine ⟨_, rfl, _, rfl, p, q, c'', h, (x :: us).map V.str, rfl, st7, ?_, hid_of (by simp [nhp, nhq]) hh7, ?_, fun D2 ys H6 nD2 hp2 hD2 st8 s8 => ?_⟩
      · rw [List.length_map, List.length_cons]; omega
      · rw [List.length_map, List.length_cons]; omega
      rw [List.length_map, List.length_cons] at st8
      obtain ⟨zs2, hz2, rfl⟩ := perm_str hp2
      have nfh : fd ≠ h := ne_of_none hf5 nh
      have s46 : Same (hid [h, p, q] H4) (hid [h, p, q] H6) := Same.trans s7 (hid_more sub s8)
      have hf5' : H5 fd = some (.dK (mkv (zs.take i) ad)) := kp_at s7 (by simp [nfh, nfp, nfq]) hf5
      have hf6 := kp_at s8 (by simp [nfp, nfq]) hf5'
      have nD2f : D2 ≠ fd := (ne_of_none hf5' nD2).symm
      have hxt := not_take ndz hx
      have htl : (mkv (zs.take i) ad).length < sizeLine := by
        rw [mkv_len, List.length_take]
        exact small1000 (by omega)
      refine ⟨_, rfl, _, rfl, fd, _, rfl, DPut.k (k := Sum.inr x) hf6 htl, ?_⟩
      rw [mkv_put hxt]
      have s06 : Kp p q H H6 := fun b o e => by
        have e4 := s05 _ _ e
        have nb : b ≠ h := ne_of_none (hid_at e).2 hH0
        have nb2 := (hid_at e).1
        exact hid_of nb2 (kp_at s46 (by simp at nb2 ⊢; exact ⟨nb, nb2⟩) (hid_at e4).2)
      refine ⟨_, _, _, _, _, _, rfl, st8.upd nfp nfq, by omega, ⟨⟨fun y => if y = x then zs2 else m y, fun y => if y = x then D2 else ad y, ?_, fun k hk => ?_⟩, ?_, kp_mut s06 hfd0⟩⟩
      · rw [upd_same, take_more hx]
      · rw [hid_in (by simp)]
        rw [take_more hx] at hk
        by_cases ek : k = x
        · simp only [if_pos ek]
          rw [ek]
          refine ⟨hid_of ?_ (hid_le _ _ hD2), ?_, hz2.mem_iff.mpr List.mem_cons_self, fun o ho => ?_, hz2.nodup_iff.mpr ?_, ?_⟩
          · have h1 := (hid_at hD2).1
            simp at h1 ⊢
            exact ⟨nD2f, h1⟩
          · intro z
            obtain ⟨o, ho⟩ := hS D2 z
            have e4 := s05 _ _ ho
            have nb : D2 ≠ h := ne_of_none (hid_at ho).2 hH0
            exact ne_of_none (kp_at s7 (by simp; exact ⟨nb, by simpa using (hid_at ho).1⟩) (hid_at e4).2) nD2 rfl
          · rcases List.mem_cons.mp (hz2.mem_iff.mp ho) with e | e
            · rw [e]; exact hxm
            · exact List.mem_of_mem_take (hum o e).2
          · rw [List.nodup_cons]
            exact ⟨fun z => (hum x z).1 rfl, und⟩
          · rw [hz2.length_eq, List.length_cons]; omega
        · simp only [if_neg ek]
          have hk' : k ∈ zs.take i := by
            rcases List.mem_append.mp hk with e | e
            · exact e
            · exact absurd (List.mem_singleton.mp e) ek
          obtain ⟨g1, g2⟩ := hm5 k hk'
          refine ⟨?_, g2⟩
          obtain ⟨n1, e1⟩ := hid_at g1
          have n2 : ad k ≠ h := ne_of_none e1 nh
          refine hid_of n1 (kp_at s46 ?_ e1)
          simp at n1 ⊢
          exact ⟨n2, n1.2⟩
      · have nDp := (hid_at hD).1
        have nDh : D ≠ h := ne_of_none hD5 nh
        have h6 : H6 D = some (.lst (zs.map V.str)) := kp_at s46 (by simp at nDp ⊢; exact ⟨nDh, nDp⟩) hD5
        show upd H6 fd _ D = _
        rw [upd_ne (ne_of h6 hf6 (fun z => by cases z))]
        exact h6
  · rintro σ H5 ⟨c', v5, v6, v7, v8, v9, rfl, st5, hc5, ⟨⟨m, ad, hf5, hm5⟩, hD5, s05⟩⟩
    rw [List.length_map] at hc5 hf5 hm5
    rw [List.take_length] at hf5 hm5
    have hh : ∀ y, y ∈ xs → y ∈ zs := fun y hy => hz.mem_iff.mpr hy
    have h4 : zs.length * 13 ≤ 4 * 13 := Nat.mul_le_mul_right _ (by omega)
    refine ⟨_, rfl, k fd m c' H5 hfd0 ⟨zs, ad, hz, hid_of ?_ hf5, fun y hy => hid_of ?_ (hid_at (hm5 y (hh y hy)).1).2⟩ ⟨fun y hy => (hm5 y (hh y hy)).2.2.1, fun y hy => (hm5 y (hh y hy)).2.2.2.1, fun y hy => (hm5 y (hh y hy)).2.2.2.2.1⟩ (fun y hy => (hm5 y (hh y hy)).2.2.2.2.2) st5 (by omega) s05⟩
    · intro z
      rcases List.mem_append.mp z with z | z
      · obtain ⟨o, ho⟩ := hS fd z
        exact ne_of_none (hid_at ho).2 hfd0 rfl
      · simp [nfp, nfq] at z
    · intro z
      rcases List.mem_append.mp z with z | z
      · exact (hm5 y (hh y hy)).2.1 z
      · exact (hid_at (hm5 y (hh y hy)).1).1 (List.mem_cons_of_mem _ z))
end
end K9

/-! ## L5 -/
set_option maxHeartbeats 2000000
namespace K9
open PySem PySem.Spec PyProof.Rows L2
theorem Eqm.symm' {hs : List Str} {m m' : Mp} (h : Eqm hs m m') : Eqm hs m' m := fun k hk => (h k hk).symm
section
variable {P : Program} {w : World} {K : PySem.W.Frag} {mg : Str → Option Value} {base : Heap}
/-- [_law_plain_map(x) for x in found] -/
theorem plain_lc {hs : List Str} {ms : List Mp} (nd : hs.Nodup) (hl : hs.length ≤ 60) (hn : ms.length ≤ 1000) (hlen : ∀ m ∈ ms, ∀ k ∈ hs, (m k).length < 60) {H1 : Hp} {σ : L2.St} {lf : Addr} {i0 j0 : Nat} (hm : MapsP H1 hs lf ms) (e0 : σ[j0]? = some (some (.ref lf)))
    (e1 : ∀ v, ((wipe σ [i0]).set i0 (some v))[i0]? = some (some v))
    {Q : VK} (q : ∀ D H, H1 D = none → Same H1 H → MapsA H (srt hs) D (ms.map srtm) → Q (.ref D) H) :
    tLc (iList K (tVar j0)) (gName i0) tYes (tCall spPlain [] E0 (tCons (tVar i0) tNil)) [i0] σ H1 Q := by
  obtain ⟨ds, h1, h2⟩ := hm
  have hlen2 := h2.length
  refine ⟨_, e0, lf, rfl, ⟨_, SqL.of h1⟩, ?_⟩
  refine lcd (walk_list (xs := ds.map V.ref)) (by rw [List.length_map]; omega) [] (fun _ => true) (fun D i H' => Same H1 H') (fun i y H' => ∃ m p, ms[i]? = some m ∧ y = .ref p ∧ MapA H' (srt hs) p (srtm m))
    (fun i y H1 H2 s ⟨m, d, e1, e2, e3⟩ => ⟨m, d, e1, e2, e3.mono s⟩) (fun D o hD => same_new hD) (fun D i H' o hD s => same_mut s hD) (fun D i H' hD hi s => SqL.of (s _ _ h1)) ?_ ?_
  · rintro D i y H2 H3 acc hD hi s1 hA ⟨rfl, hy⟩ Kt Kf kt kf
    obtain ⟨d, hd, rfl⟩ := map_at hy
    obtain ⟨m, hmi, hP⟩ := paired_at h2 hd
    refine ⟨wipe1, tyes ?_⟩
    refine ⟨_, e1 _, d, hs, m, [D], rfl, hP.mono s1, nd, hl, hlen m (at_mem hmi), fun b hb => by rw [List.mem_singleton.mp hb]; exact ⟨_, hA⟩, fun p H4 np s4 hp => ?_⟩
    exact kt rfl _ _ (s1.trans s4) (s4 _ _ hA) (same_hid s4) ⟨m, p, hmi, rfl, hp⟩
  · intro D H2 ys hD s1 hA hp
    rw [List.length_map, hlen2] at hp
    obtain ⟨ps, e1, e2⟩ := paired_range0 (G := fun p m => MapA (hid [D] H2) (srt hs) p (srtm m)) hp fun i y m hi ⟨m', d, h5, h6, h7⟩ => ⟨d, h6, by rw [hi] at h5; cases h5; exact h7⟩
    refine q D H2 hD s1 ⟨ps, by rw [hA, e1], ?_⟩
    have gen : ∀ {l : List Addr} {l2 : List Mp}, Paired (fun p m => MapA (hid [D] H2) (srt hs) p (srtm m)) l l2 → Paired (MapA H2 (srt hs)) l (l2.map srtm) := by
      intro l l2 h
      induction h with
      | nil => exact .nil
      | cons r _ ih => exact .cons (r.mono hid_le) ih
    exact gen e2
/-- the test of a map that is not yet there -/
theorem plain_test {hs : List Str} {m : Mp} {ms : List Mp} (nd : hs.Nodup) (hl : hs.length ≤ 60) (so : SO hs) (hn : ms.length ≤ 1000) (hlen : ∀ m' ∈ m :: ms, ∀ k ∈ hs, (m' k).length < 60) (hsub : ∀ m' ∈ m :: ms, ∀ k ∈ hs, ∀ o ∈ m' k, o ∈ hs) {H1 : Hp} {σ : L2.St} {lf d : Addr} {i0 j0 j1 : Nat}
    (hd : MapP H1 hs d m) (hm : MapsP H1 hs lf ms) (e0 : σ[j0]? = some (some (.ref lf))) (e2 : σ[j1]? = some (some (.ref d))) (e1 : ∀ v, ((wipe σ [i0]).set i0 (some v))[i0]? = some (some v))
    {Q : Bool → Hp → Prop} (q : ∀ b H, Same H1 H → (b = true ↔ ∀ m' ∈ ms, ¬ Eqm hs m' m) → Q b H) :
    tTest (tOp (rInM true) (tCall spPlain [] E0 (tCons (tVar j1) tNil)) (tLc (iList K (tVar j0)) (gName i0) tYes (tCall spPlain [] E0 (tCons (tVar i0) tNil)) [i0])) σ H1 Q := by
  refine ⟨_, e2, d, hs, m, [], rfl, hd, nd, hl, hlen m List.mem_cons_self, fun b hb => (by cases hb), fun p H2 np s2 hp => ?_⟩
  refine plain_lc nd hl hn (fun m' h => hlen m' (List.mem_cons_of_mem _ h)) (hm.mono s2) e0 e1 fun D H3 nD s3 hD => ?_
  have hso : ∀ m' ∈ m :: ms, ∀ k ∈ srt hs, SO (srtm m' k) := fun m' h k hk => so_srt fun x hx => so x (hsub m' h k (mem_srt.mp hk) x hx)
  refine ⟨srt hs, p, D, srtm m, ms.map srtm, rfl, rfl, (hp.mono hid_le).mono s3, hD, hso m List.mem_cons_self, fun m' h k hk => ?_, _, rfl, q _ _ (s2.trans s3) ?_⟩
  · obtain ⟨m0, h0, rfl⟩ := List.mem_map.mp h
    exact hso m0 (List.mem_cons_of_mem _ h0) k hk
  · show (!(ms.map srtm).any fun m' => eqM (srt hs) m' (srtm m)) = true ↔ _
    rw [Bool.not_eq_true', List.any_eq_false]
    constructor
    · intro h m' hm' e
      refine h (srtm m') (List.mem_map.mpr ⟨m', hm', rfl⟩) (eqM_srt.mpr fun k hk => e k (mem_srt.mp hk))
    · intro h m' hm' e
      obtain ⟨m0, h0, rfl⟩ := List.mem_map.mp hm'
      exact h m0 h0 fun k hk => eqM_srt.mp e k (mem_srt.mpr hk)
end
end K9

/-! ## L6 -/
set_option maxHeartbeats 2000000
namespace K9
open PySem PySem.Spec PyProof.Rows L2
structure MG (xs : List Str) (ms : List Mp) : Prop where
  gm : ∀ m ∈ ms, GM xs m
  len : ∀ m ∈ ms, ∀ k ∈ xs, (m k).length ≤ 5
theorem MG.nil {xs : List Str} : MG xs [] := ⟨fun _ h => (by cases h), fun _ h => (by cases h)⟩
theorem MG.snoc {xs : List Str} {ms : List Mp} {m : Mp} (h : MG xs ms) (g : GM xs m) (l : ∀ k ∈ xs, (m k).length ≤ 5) : MG xs (ms ++ [m]) := by
  refine ⟨fun m' h' => ?_, fun m' h' => ?_⟩ <;> rcases List.mem_append.mp h' with e | e
  · exact h.gm m' e
  · rw [List.mem_singleton.mp e]; exact g
  · exact h.len m' e
  · rw [List.mem_singleton.mp e]; exact l
theorem pw_snoc {xs : List Str} {ms : List Mp} {m : Mp} (h : ms.Pairwise fun m m' => ¬ Eqm xs m m') (n : ∀ m' ∈ ms, ¬ Eqm xs m' m) : (ms ++ [m]).Pairwise fun m m' => ¬ Eqm xs m m' := by
  rw [List.pairwise_append]
  exact ⟨h, by simp, fun m1 h1 m2 h2 => by rw [List.mem_singleton.mp h2]; exact n m1 h1⟩
section
variable {P : Program} {w : World} {K : PySem.W.Frag} {mg : Str → Option Value} {base : Heap}
theorem sc_l_maps : FnScope ["_law_stream", "_law_hands_here", "_law_many", "_law_found", "_law_k", "_law_one", "_law_other"] ["_law_stream", "_law_hands_here", "_law_many"] (defScope s_l_maps) := ⟨rfl, rfl, rfl, by decide +kernel, rfl, by decide +kernel, by decide +kernel⟩
def spMapsD : Sp := fun vs H Q _ => ∃ p q c a xs n, vs = [.ref p, .ref a, .int ((n : Nat) : Int)] ∧ Stm H p q c ∧ c + 600 ≤ 1000000000 ∧ n ≤ 5 ∧ Strs (hid [p, q] H) a xs ∧ xs.Nodup ∧ xs ≠ [] ∧ xs.length ≤ 4 ∧ SO xs ∧
  ∀ l ms c' H', H l = none → MapsP (hid [p, q] H') xs l ms → MG xs ms → ms.Pairwise (fun m m' => ¬ Eqm xs m m') → ms.length ≤ n → (0 < n → ms ≠ []) → Stm H' p q c' → c' ≤ c + 100 * n → Kp p q H H' → Q (.ref l) H'
theorem ok_l_maps (T : Tx K mg) : Ok P w K mg base CX0 4 "_law_maps" ["_law_stream", "_law_hands_here", "_law_many"] spMapsD :=
  ok_of T d_l_maps (by unfold fn; simp) rfl rfl rfl rfl rfl rfl (by decide +kernel) sc_l_maps (fun _ _ _ _ _ _ us hl => match us, hl with | [_, _, _], _ => rfl) (fun vs H Q E ⟨_, _, _, _, _, _, h, _⟩ => by subst h; rfl) (fun f cdv A outer s H vs Q E hr h => by
  obtain ⟨p, q, c, a, xs, n, rfl, st, hc, hn, ha, nd, ne, hl, so, k⟩ := h
  refine ⟨_, PSs.nox (pss_cons (ps_set (i := 3) sc_l_maps.nd rfl (by first | exact Or.inl rfl | exact Or.inr rfl) (pe_lst pa_nil))
    (pss_cons (ps_for PassesOwn.never rfl (pi_range1 rfl (T.Z "range") (pa_cons (pv 2) pa_nil)) (pg_name (i := 4) sc_l_maps.nd rfl (by first | exact Or.inl rfl | exact Or.inr rfl))
      (pss_cons (ps_set (i := 5) sc_l_maps.nd rfl (by first | exact Or.inl rfl | exact Or.inr rfl) (pe_c (ok_l_map T) (hr.mono (by first | decide | omega)) pass0 (pa_cons (pv 0) (pa_cons (pv 1) pa_nil))))
      (pss_one (ps_if (pt_cmpR (op_notInM hr.units70) (pe_c (ok_l_plain_map T) (hr.mono (by first | decide | omega)) pass0 (pa_cons (pv 5) pa_nil)) (pe_lc (own := [("_law_other", 6)])  rfl sc_l_maps.nd (pi_listk K (pv 3)) (blkOk_by (by kernel_rfl)) (fun _ _ _ _ _ => (pg_name (i := 6) sc_l_maps.nd rfl (by first | exact Or.inl rfl | exact Or.inr rfl))) (fun _ _ _ _ _ => pts_nil) (fun _ _ _ _ _ => (pe_c (ok_l_plain_map T) (hr.mono (by first | decide | omega)) pass0 (pa_cons (pv 6) pa_nil)))) (by rfl)) (pss_one (ps_expr (pe_bmk K PySem.F.plainAttrs_list PySem.F.slot_list_append PySem.F.type_list_append mt_append (pv 3) (pa_cons (pv 5) pa_nil)))) pss_nil))))
    (pss_one (ps_ret (pv 3))))), ?_⟩
  refine ⟨Nat.zero_le _, fun l nl => ?_⟩
  obtain ⟨nlp, nlq⟩ := st.pn nl
  refine ⟨_, rfl, _, rfl, by omega, by omega, ?_⟩
  rw [Int.toNat_natCast]
  refine for_it (walk_range (lo := 0) (n := n)) (fun i σ H' => ∃ c' v4 v5 ds ms, σ = [some (.ref p), some (.ref a), some (.int (n : Int)), some (.ref l), v4, v5, none] ∧ Stm H' p q c' ∧ c' ≤ c + 100 * i ∧ Kp p q H H' ∧ H' l = some (.lst (ds.map V.ref)) ∧ Paired (MapP (hid [l, p, q] H') xs) ds ms ∧ MG xs ms ∧ ms.Pairwise (fun m m' => ¬ Eqm xs m m') ∧ ms.length ≤ i ∧ (0 < i → ms ≠ []))
    ⟨c, none, none, [], [], rfl, st.mono (same_new nl), by omega, kp_new (.refl _) nl, upd_same, .nil, .nil, .nil, Nat.le_refl _, fun h => absurd h (Nat.lt_irrefl _)⟩ (fun _ _ _ _ _ => trivial) ?_ ?_
  · rintro i x σ H1 H2 hi ⟨c', v4, v5, ds, ms, rfl, st1, hc1, s1, hl1, hp1, mg1, pw1, ml1, ne1⟩ ⟨rfl, rfl⟩
    refine ⟨_, rfl, _, rfl, p, q, c', a, xs, [l], rfl, fun b hb => by rw [List.mem_singleton.mp hb]; exact ⟨_, hid_of (by simp [nlp, nlq]) hl1⟩, st1, by omega, s1 _ _ ha, nd, ne, hl, fun d m c2 H3 nd3 hP gm hlen st3 hc3 s3 => ?_⟩
    have s13 := Same.trans s1 s3
    have hl3 : H3 l = some (.lst (ds.map V.ref)) := kp_at s3 (by simp [nlp, nlq]) hl1
    have hp3 : Paired (MapP (hid [l, p, q] H3) xs) ds ms := L2.Paired.mapP hp1 fun _ _ h => h.mono (hid_more (fun b hb => List.mem_cons_of_mem _ hb) s3)
    have mg3 := mg1.snoc gm hlen
    have all : ∀ {Q : Mp → Prop}, (∀ m' ∈ ms ++ [m], Q m') → ∀ m' ∈ m :: ms, Q m' := fun h m' hm' => h m' (by rcases List.mem_cons.mp hm' with e | e <;> simp [e])
    refine plain_test (i0 := 6) (j0 := 3) (j1 := 5) nd (by omega) so (by omega) (all fun m' hm' y hy => by have := mg3.len m' hm' y hy; omega) (all fun m' hm' => (mg3.gm m' hm').sub) (hP.mono hid_le) (⟨ds, hl3, L2.Paired.mapP hp3 fun _ _ h => h.mono hid_le⟩) ?_ ?_ ?_ fun b H4 s4 hb => ?_
    · rfl
    · rfl
    · exact fun _ => rfl
    have hl4 := s4 _ _ hl3
    have hp4 : Paired (MapP (hid [l, p, q] H4) xs) ds ms := L2.Paired.mapP hp3 fun _ _ h => h.mono (same_hid s4)
    have s14 := Same.trans s13 (same_hid s4)
    cases b with
    | true =>
      have hb2 := hb.mp rfl
      refine iteT ⟨_, rfl, .inl ⟨rfl, _, SqL.of hl4⟩, _, rfl, l, _, _, rfl, rfl, hl4, ?_, ?_⟩
      · have := hp4.length
        rw [List.length_map]
        exact small1000 (by omega)
      · refine ⟨c2, _, _, ds ++ [d], ms ++ [m], rfl, (st3.mono s4).upd nlp nlq, by omega, kp_mut s14 nl, ?_, ?_, mg3, pw_snoc pw1 hb2, by rw [List.length_append]; exact Nat.add_le_add_right ml1 1, fun _ => by simp⟩
        · rw [upd_same, List.map_append]
          rfl
        · rw [hid_in (by simp)]
          exact Paired.snoc hp4 (hP.mono (same_hid s4))
    | false =>
      refine iteF ⟨c2, _, _, ds, ms, rfl, st3.mono s4, by omega, s14, hl4, hp4, mg1, pw1, by omega, fun _ e => ?_⟩
      subst e
      have := hb.mpr (fun m' h => (by cases h))
      cases this
  · rintro σ H1 ⟨c', v4, v5, ds, ms, rfl, st1, hc1, s1, hl1, hp1, mg1, pw1, ml1, ne1⟩
    refine ⟨_, rfl, k l ms c' H1 nl ⟨ds, hid_of (by simp [nlp, nlq]) hl1, L2.Paired.mapP hp1 fun _ _ h => h.mono (hid_sub fun b hb => List.mem_cons_of_mem _ hb)⟩ mg1 pw1 ml1 ne1 st1 hc1 s1⟩)
end
end K9

/-! ## L7 -/
set_option maxHeartbeats 2000000
namespace K9
open PySem PySem.Spec PyProof.Rows L2
theorem nin_of {S : List Addr} {H H' : Hp} {t : Addr} (h : ∀ b ∈ S, ∃ o, H b = some o) (s : Same H H') (n : H' t = none) : t ∉ S := fun z => by
  obtain ⟨o, e⟩ := h t z
  have := s _ _ e
  rw [n] at this
  cases this
/-! ### dict([(k, list) for k in ..]) -/
def PR (l : List Str) (F : Str → List Str → Prop) (H : Hp) (i : Nat) (y : V) : Prop := ∃ (k : Str) (t b : Addr) (us : List Str), l[i]? = some k ∧ y = .ref t ∧ H t = some (.tup [.str k, .ref b]) ∧ Strs H b us ∧ F k us
def DP (l : List Str) (F : Str → List Str → Prop) (H : Hp) (ys : List V) : Prop := Paired (PR l F H) (List.range l.length) ys
section
variable {J : It} {n : Nat} {G : Hp → Prop} {Y : Nat → Hp → V → Hp → Prop} {g : TG} {tt : TT} {te : TE} {vs : List Nat} {σ : L2.St} {H1 : Hp} {Qd : Addr → Hp → Prop}
theorem dict_lc (w : Walk J n G Y) {l : List Str} (hn : n = l.length) (hl : l.length ≤ 100) (S : List Addr) (hS : ∀ b ∈ S, ∃ o, H1 b = some o) (F : Str → List Str → Prop) (hG : ∀ H, Same H1 H → G H) (hY : ∀ i H x H', Y i H x H' → H' = H)
    (hs : ∀ i k x H D, l[i]? = some k → Same H1 H → Y i H x H → (∀ b ∈ D :: S, ∃ o, H b = some o) → ∀ (Kt : VK) (Kf : Hp → Prop), (∀ t b us H4, Same H H4 → H4 t = some (.tup [.str k, .ref b]) → Strs H4 b us → t ∉ D :: S → b ∉ D :: S → F k us → Kt (.ref t) H4) →
      g x (wipe σ vs) H fun σ2 H2 => wipe σ2 vs = wipe σ vs ∧ tt σ2 H2 fun b H3 => if b = true then te σ2 H3 Kt else Kf H3)
    (hd : ∀ D H ys, H1 D = none → Same H1 H → H D = some (.lst ys) → DP l F (hid (D :: S) H) ys → Qd D H) :
    ∀ D, H1 D = none → ∃ W : Nat → Nat → Hp → Prop, (∃ m, W 0 m (upd H1 D (.lst []))) ∧ ∀ i m H, W i m H →
      (J.stop i H ∧ Qd D H) ∨ (J.go i H ∧ ∃ Nx : Hp → Prop, (∀ H', Nx H' → ∃ m', m' < m ∧ W (i + 1) m' H') ∧ ∀ x H', J.yld i H x H' → g x (wipe σ vs) H' fun σ2 H2 => wipe σ2 vs = wipe σ vs ∧ tt σ2 H2 fun b H3 =>
        if b = true then te σ2 H3 fun y H4 => ∃ acc, H4 D = some (.lst acc) ∧ acc.length < sizeLine ∧ Nx (upd H4 D (.lst (acc ++ [y]))) else Nx H3) := by
  refine lcd w (by omega) S (fun _ => true) (fun D i H' => Same H1 H') (fun i y H => PR l F H i y) (fun i y H2 H3 s ⟨k, t, b, us, e1, e2, e3, e4, e5⟩ => ⟨k, t, b, us, e1, e2, s _ _ e3, s _ _ e4, e5⟩) (fun D o hD => same_new hD) (fun D i H' o hD s => same_mut s hD) (fun D i H' hD hi s => hG _ s) ?_ ?_
  · intro D i x H H' acc hD hi s1 hA y Kt Kf kt kf
    have e := hY i H x H' y
    subst e
    have hk : l[i]? = some (l[i]'(by omega)) := List.getElem?_eq_getElem _
    have hex : ∀ b ∈ D :: S, ∃ o, H' b = some o := fun b hb => by
      rcases List.mem_cons.mp hb with e | e
      · rw [e]; exact ⟨_, hA⟩
      · obtain ⟨o, ho⟩ := hS b e
        exact ⟨o, s1 _ _ ho⟩
    exact hs i _ x H' D hk s1 y hex Kt Kf fun t b us H4 s4 ht hb nt nb f => kt rfl _ _ (s1.trans s4) (s4 _ _ hA) (same_hid s4) ⟨_, t, b, us, hk, rfl, hid_of nt ht, hid_of nb hb, f⟩
  · intro D H ys hD s1 hA hp
    rw [List.filter_eq_self.mpr (fun _ _ => rfl), hn] at hp
    exact hd D H ys hD s1 hA hp
end
theorem dict_fin {K : PySem.W.Frag} {l : List Str} {F : Str → List Str → Prop} {H : Hp} {ys : List V} (nd : l.Nodup) (h : DP l F H ys) :
    ∃ (ps : List Addr) (ad : Str → Addr) (m : Mp), ys = ps.map V.ref ∧ (∀ H', Same H H' → Paired (fun p (kv : Key × V) => SqT K H' p [kV kv.1, kv.2]) ps (mkv l ad)) ∧ mergeK [] (mkv l ad) = mkv l ad ∧ ∀ k ∈ l, Strs H (ad k) (m k) ∧ F k (m k) := by
  have hlen2 := h.length
  rw [List.length_range] at hlen2
  have hex : ∀ x, ∃ (t b : Addr) (us : List Str), x ∈ l → ∃ (i : Nat), l[i]? = some x ∧ ys[i]? = some (V.ref t) ∧ H t = some (.tup [.str x, .ref b]) ∧ Strs H b us ∧ F x us := fun x => by
    by_cases hx : x ∈ l
    · obtain ⟨i, hi, e⟩ := List.mem_iff_getElem.mp hx
      have ei : l[i]? = some x := by rw [← e]; exact List.getElem?_eq_getElem hi
      obtain ⟨y, h1, k', t, b, us, h2, h3, h4, h5, h6⟩ := paired_at h (List.getElem?_range hi)
      rw [ei] at h2
      cases h2
      exact ⟨t, b, us, fun _ => ⟨i, ei, by rw [h1, h3], h4, h5, h6⟩⟩
    · exact ⟨0, 0, [], fun z => absurd z hx⟩
  refine ⟨l.map fun x => Classical.choose (hex x), fun x => Classical.choose (Classical.choose_spec (hex x)), fun x => Classical.choose (Classical.choose_spec (Classical.choose_spec (hex x))), ?_, ?_, ?_, ?_⟩
  · rw [List.map_map]
    apply List.ext_getElem?
    intro i
    by_cases hi : i < l.length
    · have ei : l[i]? = some l[i] := List.getElem?_eq_getElem hi
      obtain ⟨j, h1, h2, _⟩ := Classical.choose_spec (Classical.choose_spec (Classical.choose_spec (hex l[i]))) (List.getElem_mem hi)
      have ej : j = i := nd_ix nd h1 ei
      subst ej
      rw [h2, List.getElem?_map, ei]
      rfl
    · rw [List.getElem?_eq_none (by omega), List.getElem?_eq_none (by rw [List.length_map]; omega)]
  · have gen : ∀ l' : List Str, (∀ x ∈ l', x ∈ l) → ∀ H', Same H H' → Paired (fun p (kv : Key × V) => SqT K H' p [kV kv.1, kv.2]) (l'.map fun x => Classical.choose (hex x)) (mkv l' (fun x => Classical.choose (Classical.choose_spec (hex x)))) := by
      intro l'
      induction l' with
      | nil => intro _ _ _; exact .nil
      | cons x l' ih =>
        intro h H' s
        obtain ⟨j, h1, h2, h3, h4⟩ := Classical.choose_spec (Classical.choose_spec (Classical.choose_spec (hex x))) (h x List.mem_cons_self)
        exact .cons (SqT.of (s _ _ h3)) (ih (fun y hy => h y (List.mem_cons_of_mem _ hy)) H' s)
    exact gen l fun _ h => h
  · exact merge_mkv l [] (by simpa using nd)
  · intro k hk
    obtain ⟨j, h1, h2, h3, h4⟩ := Classical.choose_spec (Classical.choose_spec (Classical.choose_spec (hex k))) hk
    exact h4
/-! ### maps that change -/
theorem mkv_put_old {ad : Str → Addr} {ks : List Str} {k : Str} {b : Addr} (h : k ∈ ks) : putK (mkv ks ad) (Sum.inr k : Key) (.ref b) = mkv ks (fun x => if x = k then b else ad x) := by
  unfold putK
  have e : ((mkv ks ad).any fun kv => decide (kv.1 = (Sum.inr k : Key))) = true := by
    rw [List.any_eq_true]
    exact ⟨_, List.mem_map.mpr ⟨k, h, rfl⟩, decide_eq_true rfl⟩
  rw [if_pos e]
  unfold mkv
  rw [List.map_map]
  refine List.map_congr_left fun x hx => ?_
  show (if (Sum.inr x : Key) = Sum.inr k then ((Sum.inr x : Key), V.ref b) else ((Sum.inr x : Key), V.ref (ad x))) = ((Sum.inr x : Key), V.ref (if x = k then b else ad x))
  by_cases e : x = k
  · rw [if_pos (by rw [e]), if_pos e]
  · rw [if_neg (fun z => e (Sum.inr.inj z)), if_neg e]
theorem mapP_put {S : List Addr} {H : Hp} {xs : List Str} {d b : Addr} {m : Mp} {k : Str} {us : List Str} (h : MapP (hid S H) xs d m) (hk : k ∈ xs) (hb : Strs (hid S H) b us) :
    ∃ kvs, H d = some (.dK kvs) ∧ kvs.length = xs.length ∧ MapP (hid S (upd H d (.dK (putK kvs (Sum.inr k : Key) (.ref b))))) xs d (fun x => if x = k then us else m x) := by
  obtain ⟨ks, ad, hp, hd, ha⟩ := h
  have hd2 := hid_at hd
  refine ⟨_, hd2.2, by rw [mkv_len, hp.length_eq], ks, _, hp, hid_of hd2.1 (by rw [upd_same, mkv_put_old (hp.mem_iff.mpr hk)]), fun x hx => ?_⟩
  have up : ∀ {c : Addr} {us : List Str} {u : HO}, Strs (hid S H) c us → Strs (hid S (upd H d u)) c us := fun {c us u} hc => by
    have hc2 := hid_at hc
    refine hid_of hc2.1 ?_
    rw [upd_ne (ne_of hc2.2 hd2.2 (fun z => by cases z))]
    exact hc2.2
  by_cases e : x = k
  · simp only [if_pos e]
    exact up hb
  · simp only [if_neg e]
    exact up (ha x hx)
theorem MapP.new {S : List Addr} {H : Hp} {xs : List Str} {d l : Addr} {m : Mp} (h : MapP (hid S H) xs d m) (n : H l = none) : MapP (hid (l :: S) H) xs d m := by
  refine h.mono fun b o e => ?_
  have e2 := hid_at e
  refine hid_of (fun z => ?_) e2.2
  rcases List.mem_cons.mp z with z | z
  · exact ne_of_none e2.2 n z
  · exact e2.1 z
theorem lock_same {H H' : Hp} {d : Addr} {od : Obj} {u : HO} (h : H d = some u) (s : Same (upd H d (.frz od u)) H') : Same H (upd H' d u) := fun b o e => by
  by_cases q : b = d
  · subst q
    rw [upd_same, ← h]
    exact e
  · rw [upd_ne q]
    exact s _ _ (by rw [upd_ne q]; exact e)
end K9

/-! ## L8 -/
set_option maxHeartbeats 2000000
namespace K9
open PySem PySem.Spec PyProof.Rows L2
/-- what the makers of maps keep -/
def spSome (pre : List Str → Prop) : Sp := fun vs H Q _ => ∃ p q c a xs, vs = [.ref p, .ref a] ∧ Stm H p q c ∧ c + 1000 ≤ 1000000000 ∧ Strs (hid [p, q] H) a xs ∧ xs.Nodup ∧ 2 ≤ xs.length ∧ xs.length ≤ 4 ∧ SO xs ∧ pre xs ∧
  ∀ l ms c' H', H l = none → MapsP (hid [p, q] H') xs l ms → MG xs ms → ms ≠ [] → ms.length ≤ 6 → Stm H' p q c' → c' ≤ c + 300 → Kp p q H H' → Q (.ref l) H'
section
variable {P : Program} {w : World} {K : PySem.W.Frag} {mg : Str → Option Value} {base : Heap}
theorem sc_l_m_lossy : FnScope ["_law_stream", "_law_hands_here", "_law_hand", "_law_base", "_law_found", "_law_k", "_law_one", "_law_j", "_law_other"] ["_law_stream", "_law_hands_here"] (defScope s_l_m_lossy) := ⟨rfl, rfl, rfl, by decide +kernel, rfl, by decide +kernel, by decide +kernel⟩
theorem ok_l_m_lossy (T : Tx K mg) : Ok P w K mg base CX0 4 "_law_m_lossy" ["_law_stream", "_law_hands_here"] (spSome fun _ => True) :=
  ok_of T d_l_m_lossy (by unfold fn; simp) rfl rfl rfl rfl rfl rfl (by decide +kernel) sc_l_m_lossy (fun _ _ _ _ _ _ us hl => match us, hl with | [_, _], _ => rfl) (fun vs H Q E ⟨_, _, _, _, _, h, _⟩ => by subst h; rfl) (fun f cdv A outer s H vs Q E hr h => by
  obtain ⟨p, q, c, a, xs, rfl, st, hc, ha, nd, h2, h4, so, _, k⟩ := h
  have hu := hu_of hr
  have ne : xs ≠ [] := fun e => by rw [e] at h2; cases h2
  refine ⟨_, PSs.nox (pss_cons (ps_set (i := 3) sc_l_m_lossy.nd rfl (by first | exact Or.inl rfl | exact Or.inr rfl) (pe_c (ok_l_pick T) (hr.mono (by first | decide | omega)) pass0 (pa_cons (pv 0) (pa_cons (pe_lst (pa_cons (pe_c (ok_l_map T) (hr.mono (by first | decide | omega)) pass0 (pa_cons (pv 0) (pa_cons (pv 1) pa_nil))) (pa_cons (pe_callTy (call_dictPk K rfl) (by rfl) (T.Z "dict") bt_dict (pa_cons (pe_lc (own := [("_law_hand", 2)])  rfl sc_l_m_lossy.nd (pi_listk K (pv 1)) (blkOk_by (by kernel_rfl)) (fun _ _ _ _ _ => (pg_name (i := 2) sc_l_m_lossy.nd rfl (by first | exact Or.inl rfl | exact Or.inr rfl))) (fun _ _ _ _ _ => pts_nil) (fun _ _ _ _ _ => (pe_tup (pa_cons (pv 2) (pa_cons (pe_callTy (call_list_ofk K) (by rfl) (T.Z "list") bt_list (pa_cons (pv 1) pa_nil)) pa_nil))))) pa_nil)) pa_nil))) pa_nil))))
    (pss_cons (ps_set (i := 4) sc_l_m_lossy.nd rfl (by first | exact Or.inl rfl | exact Or.inr rfl) (pe_lst (pa_cons (pv 3) pa_nil)))
    (pss_cons (ps_for PassesOwn.never rfl (pi_range1 rfl (T.Z "range") (pa_cons (pe_op op_add pe_int (pe_c (ok_l_draw T) (hr.mono (by first | decide | omega)) pass0 (pa_cons (pv 0) (pa_cons pe_int pa_nil)))) pa_nil)) (pg_name (i := 5) sc_l_m_lossy.nd rfl (by first | exact Or.inl rfl | exact Or.inr rfl))
      (pss_cons (ps_set (i := 6) sc_l_m_lossy.nd rfl (by first | exact Or.inl rfl | exact Or.inr rfl) (pe_callTy (call_dictPk K rfl) (by rfl) (T.Z "dict") bt_dict (pa_cons (pe_lock (pe_lc (own := [("_law_hand", 2)])  rfl sc_l_m_lossy.nd (pi_keys (pv 3)) (blkOk_by (by kernel_rfl)) (fun _ _ _ _ _ => (pg_name (i := 2) sc_l_m_lossy.nd rfl (by first | exact Or.inl rfl | exact Or.inr rfl))) (fun _ _ _ _ _ => pts_nil) (fun _ _ _ _ _ => (pe_tup (pa_cons (pv 2) (pa_cons (pe_callTy (call_list_ofk K) (by rfl) (T.Z "list") bt_list (pa_cons (pe_dget hu (pv 3) (pv 2) (fun _ _ => rfl)) pa_nil)) pa_nil)))))) pa_nil)))
      (pss_cons (ps_for PassesOwn.never rfl (pi_range1 rfl (T.Z "range") (pa_cons (pe_op op_add pe_int (pe_c (ok_l_draw T) (hr.mono (by first | decide | omega)) pass0 (pa_cons (pv 0) (pa_cons pe_int pa_nil)))) pa_nil)) (pg_name (i := 7) sc_l_m_lossy.nd rfl (by first | exact Or.inl rfl | exact Or.inr rfl))
        (pss_cons (ps_set (i := 2) sc_l_m_lossy.nd rfl (by first | exact Or.inl rfl | exact Or.inr rfl) (pe_c (ok_l_pick T) (hr.mono (by first | decide | omega)) pass0 (pa_cons (pv 0) (pa_cons (pv 1) pa_nil))))
        (pss_one (ps_dput hu (pv 6) (pv 2) (pe_lc (own := [("_law_other", 8)])  rfl sc_l_m_lossy.nd (pi_listk K (pe_dget hu (pv 6) (pv 2) (fun _ _ => rfl))) (blkOk_by (by kernel_rfl)) (fun _ _ _ _ _ => (pg_name (i := 8) sc_l_m_lossy.nd rfl (by first | exact Or.inl rfl | exact Or.inr rfl))) (fun _ _ _ _ _ => (pts_one (PW.pt (pw_or (pt_cmpR op_eq (pv 8) (pv 2) (nomark _)) (pw_or1 (pt_cmpR op_eq (pe_c (ok_l_draw T) (hr.mono (by first | decide | omega)) pass0 (pa_cons (pv 0) (pa_cons pe_int pa_nil))) pe_int (nomark _))))))) (fun _ _ _ _ _ => (pv 8))) rfl))))
      (pss_one (ps_expr (pe_bmk K PySem.F.plainAttrs_list PySem.F.slot_list_append PySem.F.type_list_append mt_append (pv 4) (pa_cons (pv 6) pa_nil)))))))
    (pss_one (ps_ret (pv 4)))))), ?_⟩
  refine ⟨_, rfl, _, rfl, _, rfl, p, q, c, a, xs, [], rfl, fun b hb => (by cases hb), st, by omega, ha, nd, ne, h4, fun d0 m0 c0 H1 nd0 hP0 gm0 hl0 st1 hc1 s1 => ?_⟩
  refine ⟨_, rfl, a, rfl, ⟨_, SqL.of (hid_le _ _ (s1 _ _ ha))⟩, ?_⟩
  refine dict_lc (walk_list (xs := xs.map V.str)) (by rw [List.length_map]) (by omega) [p, q] (fun b hb => ?_) (fun _ us => us = xs) (fun H' s => SqL.of (s _ _ (hid_le _ _ (s1 _ _ ha)))) (fun _ _ _ _ y => y.1) ?_ ?_
  · obtain ⟨e1, e2⟩ := st1.tr
    simp at hb
    rcases hb with e | e <;> rw [e] <;> assumption
  · intro i kk x H2 D hk s2 hy hex Kt Kf kt
    obtain rfl : V.str kk = x := by
      have := hy.2
      rw [map_get hk] at this
      exact Option.some.inj this
    refine ⟨rfl, tyes ?_⟩
    have ha2 := s2 _ _ (hid_le _ _ (s1 _ _ ha))
    refine ⟨_, rfl, _, rfl, a, _, rfl, .inl (SqL.of ha2), fun b nb => ⟨by show 2 ≤ sizeLine; decide, fun t nt => ?_⟩⟩
    have sb := same_new (o := .lst (xs.map V.str)) nb
    have stt := same_new (o := .tup [.str kk, .ref b]) nt
    exact kt t b xs _ (sb.trans stt) upd_same (stt _ _ upd_same) (nin_of hex sb nt) (nin_of hex (.refl _) nb) rfl
  intro D H2 ys nD s2 hD hDP
  obtain ⟨ps, ad, m1, rfl, e2, e3, e4⟩ := dict_fin nd hDP
  refine ⟨D, ps, _, rfl, SqL.of hD, e2 H2 hid_le, fun d1 nd1 => ?_⟩
  rw [e3]
  have s12 : Same H1 (upd H2 d1 (.dK (mkv xs ad))) := s2.trans (same_new nd1)
  generalize hH3 : upd H2 d1 (.dK (mkv xs ad)) = H3 at s12
  have hP1 : MapP (hid [p, q] H3) xs d1 m1 := by
    rw [← hH3]
    obtain ⟨n1, n2⟩ := (st1.mono s2).pn nd1
    refine ⟨xs, ad, .refl _, hid_of (by simp [n1, n2]) upd_same, fun y hy => ?_⟩
    have h1 := hid_at (e4 y hy).1
    refine hid_of (fun z => h1.1 (List.mem_cons_of_mem _ z)) (same_new nd1 _ _ h1.2)
  have gm1 : GM xs m1 := ⟨fun y hy => by rw [(e4 y hy).2]; exact hy, fun y hy o ho => by rw [(e4 y hy).2] at ho; exact ho, fun y hy => by rw [(e4 y hy).2]; exact nd⟩
  have hl1 : ∀ y ∈ xs, (m1 y).length ≤ 5 := fun y hy => by rw [(e4 y hy).2]; omega
  have st3 := st1.mono s12
  have s03 := Same.trans s1 (same_hid s12)
  refine ⟨by show 2 ≤ sizeLine; decide, fun bl nbl => ?_⟩
  obtain ⟨nbp, nbq⟩ := st3.pn nbl
  have sb := same_new (o := .lst [.ref d0, .ref d1]) nbl
  refine ⟨p, q, c0, bl, [.ref d0, .ref d1], rfl, st3.mono sb, by omega, hid_of (by simp [nbp, nbq]) upd_same, by simp, by simp, fun ix bb H4 hix st4 s4 => ?_⟩
  have s34 : Kp p q H3 H4 := Same.trans (same_hid sb) s4
  have s04 := Same.trans s03 s34
  obtain ⟨bs, mb, rfl, hPb, gmb, hlb⟩ : ∃ bs mb, bb = .ref bs ∧ MapP (hid [p, q] H4) xs bs mb ∧ GM xs mb ∧ ∀ y ∈ xs, (mb y).length ≤ 5 := by
    match ix, hix with
    | 0, hix => cases hix; exact ⟨d0, m0, rfl, hP0.mono (Same.trans (same_hid s12) s34), gm0, hl0⟩
    | 1, hix => cases hix; exact ⟨d1, m1, rfl, hP1.mono s34, gm1, hl1⟩
  have ha4 := s04 _ _ ha
  refine ⟨_, rfl, by show 1 ≤ sizeLine; decide, fun l nl => ?_⟩
  obtain ⟨nlp, nlq⟩ := st4.pn nl
  have nl0 : H l = none := kp_no s04 st4 nl st
  have sl := same_new (o := .lst [.ref bs]) nl
  refine ⟨_, rfl, p, q, _, c0 + 1, rfl, by omega, by omega, st4.mono sl, by omega, fun dd H5 dd0 dd1 st5 s5 => ?_⟩
  have s45 : Kp p q H4 H5 := Same.trans (same_hid sl) s5
  have s05 := Same.trans s04 s45
  have hl5 : H5 l = some (.lst [.ref bs]) := kp_at s5 (by simp [nlp, nlq]) upd_same
  have hPb5 : MapP (hid [l, p, q] H5) xs bs mb := (hPb.new nl).mono (Same.trans (same_hid sl) (hid_more (fun b hb => List.mem_cons_of_mem _ hb) s5))
  obtain ⟨N, hN⟩ : ∃ N : Nat, (1 : Int) + dd = (N : Int) := ⟨(1 + dd).toNat, by omega⟩
  have hN3 : N ≤ 3 := by omega
  refine ⟨_, _, rfl, rfl, ?_⟩
  refine ⟨(N : Int), (show [V.int (1 + dd)] = [V.int (N : Int)] by rw [hN]), by omega, by omega, ?_⟩
  rw [Int.toNat_natCast]
  refine for_it (walk_range (lo := 0) (n := N)) (fun i σ H' => ∃ c' v2 v5 v6 v7 ds ms, σ = [some (.ref p), some (.ref a), v2, some (.ref bs), some (.ref l), v5, v6, v7, none] ∧ Stm H' p q c' ∧ c' ≤ c0 + 2 + 13 * i ∧ Kp p q H H' ∧ H' l = some (.lst (ds.map V.ref)) ∧ Paired (MapP (hid [l, p, q] H') xs) ds ms ∧ MapP (hid [l, p, q] H') xs bs mb ∧ MG xs ms ∧ ms.length = i + 1)
    ⟨c0 + 1 + 1, none, none, none, none, [bs], [mb], rfl, st5, by omega, s05, hl5, .cons hPb5 .nil, hPb5, MG.nil.snoc gmb hlb, rfl⟩ (fun _ _ _ _ _ => trivial) ?_ ?_
  · rintro i x σ H6 H7 hi ⟨c', v2, v5, v6, v7, ds, ms, rfl, st6, hc6, s6, hl6, hp6, hb6, mg6, ml6⟩ ⟨rfl, rfl⟩
    have hb7 := hb6
    obtain ⟨ks, ad2, hpk, hbk, habk⟩ := hb6
    have ndk : ks.Nodup := hpk.nodup_iff.mpr nd
    have hkl := hpk.length_eq
    have hbk1 := (hid_at hbk).1
    have hbk2 := (hid_at hbk).2
    obtain ⟨e1, e2⟩ := st6.tr
    refine ⟨bs, _, hbk2, trivial, fun od => ⟨_, rfl, bs, od, rfl, .inl ⟨mkv ks ad2, upd_same, ?_⟩⟩⟩
    refine dict_lc (l := ks) walk_keys (mkv_len _ _) (by omega) [bs, l, p, q] (fun b hb => ?_) (fun y us => us = mb y) (fun H' s => s _ _ upd_same) (fun _ _ _ _ y => y.1) ?_ ?_
    · simp only [List.mem_cons, List.not_mem_nil, or_false] at hb
      rcases hb with e | e | e | e
      · rw [e]; exact ⟨_, upd_same⟩
      · rw [e, upd_ne (fun z => hbk1 (by rw [← z]; simp))]; exact ⟨_, hl6⟩
      · rw [e, upd_ne (fun z => hbk1 (by rw [← z]; simp))]; exact e1
      · rw [e, upd_ne (fun z => hbk1 (by rw [← z]; simp))]; exact e2
    · intro i kk x H8 D hk s8 hy hex Kt Kf kt
      obtain ⟨_, k0, v0, hkv, rfl⟩ := hy
      have hkv2 : (mkv ks ad2)[i]? = some ((Sum.inr kk : Key), V.ref (ad2 kk)) := map_get hk
      rw [hkv2] at hkv
      obtain ⟨rfl, rfl⟩ := Prod.mk.inj (Option.some.inj hkv)
      refine ⟨rfl, tyes ?_⟩
      have hkk : kk ∈ ks := at_mem hk
      have hak0 := (hid_at (habk kk (hpk.mem_iff.mp hkk))).2
      have hak : Strs H8 (ad2 kk) (mb kk) := s8 _ _ (by rw [upd_ne (ne_of hak0 hbk2 (fun z => by cases z))]; exact hak0)
      refine ⟨_, rfl, _, rfl, _, rfl, bs, _, rfl, .inl ⟨mkv ks ad2, Sum.inr kk, .inr ⟨od, s8 _ _ upd_same⟩, rfl, (valV_mkv hkk).symm⟩, ad2 kk, _, rfl, .inl (SqL.of hak), fun b nb => ⟨by show 2 ≤ sizeLine; decide, fun t nt => ?_⟩⟩
      have sb := same_new (o := .lst ((mb kk).map V.str)) nb
      have stt := same_new (o := .tup [.str kk, .ref b]) nt
      exact kt t b (mb kk) _ (sb.trans stt) upd_same (stt _ _ upd_same) (nin_of hex sb nt) (nin_of hex (.refl _) nb) rfl
    intro D H8 ys nD s8 hD hDP
    obtain ⟨ps, ad3, m2, rfl, f2, f3, f4⟩ := dict_fin ndk hDP
    have nDb : D ≠ bs := (ne_of_none upd_same nD).symm
    have sU : Same (hid (D :: [bs, l, p, q]) H8) (upd H8 bs (.dK (mkv ks ad2))) := fun b o e => by
      have e1 := hid_at e
      rw [upd_ne (fun z => e1.1 (by rw [z]; simp))]
      exact e1.2
    have sL : Same H7 (upd H8 bs (.dK (mkv ks ad2))) := lock_same hbk2 s8
    refine ⟨s8 _ _ upd_same, D, ps, _, rfl, SqL.of (by rw [upd_ne nDb]; exact hD), f2 _ sU, fun d1 nd1 => ?_⟩
    rw [f3]
    have s79 : Same H7 (upd (upd H8 bs (.dK (mkv ks ad2))) d1 (.dK (mkv ks ad3))) := sL.trans (same_new nd1)
    have nd7 : H7 d1 = none := sL.free nd1
    obtain ⟨ndp, ndq⟩ := st6.pn nd7
    have ndl : d1 ≠ l := (ne_of_none hl6 nd7).symm
    have hd9 : MapP (hid [l, p, q] (upd (upd H8 bs (.dK (mkv ks ad2))) d1 (.dK (mkv ks ad3)))) xs d1 m2 := by
      refine ⟨ks, ad3, hpk, hid_of (by simp [ndl, ndp, ndq]) upd_same, fun y hy => ?_⟩
      have h1 := (f4 y (hpk.mem_iff.mpr hy)).1
      exact hid_of (fun z => (hid_at h1).1 (List.mem_cons_of_mem _ (List.mem_cons_of_mem _ z))) (same_new nd1 _ _ (sU _ _ h1))
    generalize hH9 : upd (upd H8 bs (.dK (mkv ks ad2))) d1 (.dK (mkv ks ad3)) = H9 at s79 hd9
    have gm2 : GM xs m2 := ⟨fun y hy => by rw [(f4 y (hpk.mem_iff.mpr hy)).2]; exact gmb.self y hy, fun y hy o ho => by rw [(f4 y (hpk.mem_iff.mpr hy)).2] at ho; exact gmb.sub y hy o ho, fun y hy => by rw [(f4 y (hpk.mem_iff.mpr hy)).2]; exact gmb.nd y hy⟩
    have hl2 : ∀ y ∈ xs, (m2 y).length ≤ 5 := fun y hy => by rw [(f4 y (hpk.mem_iff.mpr hy)).2]; exact hlb y hy
    have st9 := st6.mono s79
    have hi13 : 13 * i ≤ 13 * 2 := Nat.mul_le_mul_left _ (by omega)
    refine ⟨_, rfl, p, q, _, c', rfl, by omega, by omega, st9, by omega, fun ee H10 ee0 ee1 st10 s10 => ?_⟩
    obtain ⟨N2, hN2⟩ : ∃ N : Nat, (1 : Int) + ee = (N : Int) := ⟨(1 + ee).toNat, by omega⟩
    have hN22 : N2 ≤ 2 := by omega
    refine ⟨_, _, rfl, rfl, ?_⟩
    refine ⟨(N2 : Int), (show [V.int (1 + ee)] = [V.int (N2 : Int)] by rw [hN2]), by omega, by omega, ?_⟩
    rw [Int.toNat_natCast]
    have sub3 : ∀ b ∈ [p, q], b ∈ [l, p, q] := fun b hb => List.mem_cons_of_mem _ hb
    have sub4 : ∀ b ∈ [p, q], b ∈ [d1, p, q] := fun b hb => List.mem_cons_of_mem _ hb
    have ha9 : Strs (hid [d1, p, q] H9) a xs := by
      have h1 := s6 _ _ ha
      refine hid_of (fun z => ?_) (s79 _ _ (hid_at h1).2)
      rcases List.mem_cons.mp z with z | z
      · exact ne_of_none (hid_at h1).2 nd7 z
      · exact (hid_at h1).1 z
    have hl9 : hid [d1, p, q] H9 l = some (.lst (ds.map V.ref)) := hid_of (by simp [ndl.symm, nlp, nlq]) (s79 _ _ hl6)
    refine for_it (walk_range (lo := 0) (n := N2)) (fun j σ H' => ∃ c'' v2 v7 m', σ = [some (.ref p), some (.ref a), v2, some (.ref bs), some (.ref l), some (.int (0 + (i : Int))), some (.ref d1), v7, none] ∧ Stm H' p q c'' ∧ c'' ≤ c' + 1 + 6 * j ∧ Same (hid [d1, p, q] H9) (hid [d1, p, q] H') ∧ MapP (hid [l, p, q] H') xs d1 m' ∧ GM xs m' ∧ ∀ y ∈ xs, (m' y).length ≤ 5)
      ⟨c' + 1, v2, v7, m2, rfl, st10, by omega, hid_more sub4 s10, hd9.mono (hid_more sub3 s10), gm2, hl2⟩ (fun _ _ _ _ _ => trivial) ?_ ?_
    · rintro j x σ H10 H11 hj ⟨c'', v2, v7, m', rfl, st11, hc11, s11, hd11, gm11, hl11⟩ ⟨rfl, rfl⟩
      have ha11 : Strs (hid [p, q] H11) a xs := hid_sub sub4 _ _ (s11 _ _ ha9)
      refine ⟨_, rfl, _, rfl, p, q, c'', a, xs.map V.str, rfl, st11, by omega, ha11, by simpa using ne, by rw [List.length_map]; omega, fun ix x H12 hx st12 s12 => ?_⟩
      obtain ⟨kk, hkk, rfl⟩ := map_at hx
      have hkm := at_mem hkk
      have hd12 : MapP (hid [l, p, q] H12) xs d1 m' := hd11.mono (hid_more sub3 s12)
      have hd12' := hd12
      obtain ⟨ks4, ad4, hp4, hd4, ha4'⟩ := hd12'
      have hak := (hid_at (ha4' kk hkm)).2
      refine ⟨_, rfl, _, rfl, d1, _, rfl, (valV_mkv (hp4.mem_iff.mpr hkm) ▸ DGet.k (k := Sum.inr kk) (hid_at hd4).2), ad4 kk, rfl, ⟨_, SqL.of hak⟩, fun D2 nD2 => ?_⟩
      obtain ⟨nD2p, nD2q⟩ := st12.pn nD2
      refine lc_it (walk_list (xs := (m' kk).map V.str)) (fun i' H' => ∃ us c3, Strs H' D2 us ∧ us.length ≤ i' ∧ us.Nodup ∧ (∀ u ∈ us, u ∈ (m' kk).take i') ∧ (kk ∈ (m' kk).take i' → kk ∈ us) ∧ Stm H' p q c3 ∧ c3 ≤ c'' + 1 + i' ∧ Kp p q H12 H')
        ⟨[], c'' + 1, upd_same, Nat.le_refl _, List.nodup_nil, fun u hu => by simp at hu, fun h => by simp at h, st12.mono (same_new nD2), by omega, kp_new (.refl _) nD2⟩ (fun i' H' _ ⟨_, _, _, _, _, _, _, _, _, s⟩ => SqL.of (kp_at s (fun z => (hid_at (ha4' kk hkm)).1 (sub3 _ z)) hak)) ?_ ?_
      · rintro i' x H13 H14 hi' ⟨us, c3, hD3, ul, und, um, uk, st14, hc14, s14⟩ ⟨rfl, hx'⟩
        obtain ⟨o, ho, rfl⟩ := map_at hx'
        have hlm := hl11 kk hkm
        have hol := at_lt ho
        have yes : ∀ {H15 : Hp} {c4 : Nat}, Kp p q H14 H15 → Stm H15 p q c4 → c4 ≤ c3 + 1 → ∃ acc, H15 D2 = some (.lst acc) ∧ acc.length < sizeLine ∧ ∃ us c3, Strs (upd H15 D2 (.lst (acc ++ [V.str o]))) D2 us ∧ us.length ≤ i' + 1 ∧ us.Nodup ∧ (∀ u ∈ us, u ∈ (m' kk).take (i' + 1)) ∧ (kk ∈ (m' kk).take (i' + 1) → kk ∈ us) ∧ Stm (upd H15 D2 (.lst (acc ++ [V.str o]))) p q c3 ∧ c3 ≤ c'' + 1 + (i' + 1) ∧ Kp p q H12 (upd H15 D2 (.lst (acc ++ [V.str o]))) := by
          intro H15 c4 s15 st15 hc15
          refine ⟨_, kp_at s15 (by simp [nD2p, nD2q]) hD3, by rw [List.length_map]; exact small1000 (by omega), us ++ [o], c4, ?_, by rw [List.length_append]; exact Nat.add_le_add_right ul 1, ?_, fun u hu => ?_, fun hk => ?_, st15.upd nD2p nD2q, by omega, kp_mut (Same.trans s14 s15) nD2⟩
          · show upd H15 D2 _ D2 = _
            rw [upd_same, List.map_append]
            rfl
          · rw [List.nodup_append]
            refine ⟨und, by simp, fun b hb b' hb' eb => ?_⟩
            rw [List.mem_singleton.mp hb'] at eb
            subst eb
            exact not_take (gm11.nd kk hkm) ho (um _ hb)
          · rw [take_more ho]
            rcases List.mem_append.mp hu with hu | hu
            · exact List.mem_append_left _ (um u hu)
            · exact List.mem_append_right _ hu
          · rw [take_more ho] at hk
            rcases List.mem_append.mp hk with hk | hk
            · exact List.mem_append_left _ (uk hk)
            · exact List.mem_append_right _ hk
        refine ⟨rfl, ?_⟩
        refine ⟨_, rfl, _, rfl, rfl, _, rfl, ?_⟩
        by_cases eo : o = kk
        · refine iteB (decide_eq_true (show V.str o = V.str kk by rw [eo])) (iteT ?_)
          exact ⟨_, rfl, yes (.refl _) st14 (by omega)⟩
        · refine iteBF (decide_eq_false (show ¬ V.str o = V.str kk from fun e => eo (V.str.inj e))) ?_
          refine ⟨_, rfl, p, q, _, c3, rfl, by omega, by omega, st14, by omega, fun ff H15 ff0 ff1 st15 s15 => ?_⟩
          refine ⟨rfl, _, rfl, ?_⟩
          by_cases ef : ff = 0
          · refine iteB (decide_eq_true (show V.int ff = V.int 0 by rw [ef])) ?_
            exact ⟨_, rfl, yes s15 st15 (Nat.le_refl _)⟩
          · refine iteBF (decide_eq_false (show ¬ V.int ff = V.int 0 from fun e => ef (V.int.inj e))) ?_
            refine ⟨us, c3 + 1, kp_at s15 (by simp [nD2p, nD2q]) hD3, by omega, und, fun u hu => ?_, fun hk => ?_, st15, by omega, Same.trans s14 s15⟩
            · rw [take_more ho]; exact List.mem_append_left _ (um u hu)
            · rw [take_more ho] at hk
              rcases List.mem_append.mp hk with hk | hk
              · exact uk hk
              · exact absurd (List.mem_singleton.mp hk).symm eo
      · rintro H13 ⟨us, c3, hD3, ul, und, um, uk, st14, hc14, s14⟩
        rw [List.length_map] at ul um uk hc14
        rw [List.take_length] at um uk
        have hlm := hl11 kk hkm
        have hd13 : MapP (hid [l, p, q] H13) xs d1 m' := hd12.mono (hid_more sub3 s14)
        have hl11' : H11 l = some (.lst (ds.map V.ref)) := (hid_at (s11 _ _ hl9)).2
        have hl12 : H12 l = some (.lst (ds.map V.ref)) := kp_at s12 (by simp [nlp, nlq]) hl11'
        have nD2l : D2 ≠ l := (ne_of_none hl12 nD2).symm
        obtain ⟨kvs, g1, g2, g3⟩ := mapP_put hd13 hkm (hid_of (by simp [nD2p, nD2q, nD2l]) hD3)
        refine ⟨_, rfl, _, rfl, d1, _, rfl, DPut.k (k := Sum.inr kk) g1 (by rw [g2]; exact small1000 (by omega)), ?_⟩
        refine ⟨c3, _, _, _, rfl, st14.upd ndp ndq, by omega, ?_, g3, ⟨fun y hy => ?_, fun y hy o ho => ?_, fun y hy => ?_⟩, fun y hy => ?_⟩
        · rw [hid_in (by simp)]
          exact Same.trans s11 (hid_more sub4 (Same.trans s12 s14))
        all_goals by_cases ey : y = kk
        · simp only [if_pos ey]; rw [ey]; exact uk (gm11.self kk hkm)
        · simp only [if_neg ey]; exact gm11.self y hy
        · simp only [if_pos ey] at ho; exact gm11.sub kk hkm o (um o ho)
        · simp only [if_neg ey] at ho; exact gm11.sub y hy o ho
        · simp only [if_pos ey]; exact und
        · simp only [if_neg ey]; exact gm11.nd y hy
        · simp only [if_pos ey]; omega
        · simp only [if_neg ey]; exact hl11 y hy
    · rintro σ H11 ⟨c'', v2, v7, m', rfl, st11, hc11, s11, hd11, gm11, hl11⟩
      have hl12 : H11 l = some (.lst (ds.map V.ref)) := (hid_at (s11 _ _ hl9)).2
      have hdl := hp6.length
      have sub5 : ∀ b ∈ [d1, p, q], b ∈ [d1, l, p, q] := fun b hb => by simp at hb ⊢; rcases hb with e | e | e <;> simp [e]
      have sA : Same (hid [d1, l, p, q] H7) (hid [d1, l, p, q] H11) := Same.trans (same_hid s79) (hid_more sub5 s11)
      have sK : Kp p q H H11 := fun b o e => by
        have h1 := hid_at e
        have h2 := hid_at (s6 _ _ e)
        have h3 := hid_at (s11 b o (hid_of (fun z => by
          rcases List.mem_cons.mp z with z | z
          · exact ne_of_none h2.2 nd7 z
          · exact h1.1 z) (s79 _ _ h2.2)))
        exact hid_of h1.1 h3.2
      refine ⟨_, rfl, .inl ⟨rfl, _, SqL.of hl12⟩, _, rfl, l, _, _, rfl, rfl, hl12, by rw [List.length_map]; exact small1000 (by omega), ?_⟩
      refine ⟨c'', _, _, _, _, ds ++ [d1], ms ++ [m'], rfl, st11.upd nlp nlq, by omega, kp_mut sK nl0, ?_, ?_, ?_, mg6.snoc gm11 hl11, by rw [List.length_append, ml6]; rfl⟩
      · rw [upd_same, List.map_append]
        rfl
      · rw [hid_in (by simp)]
        exact Paired.snoc (L2.Paired.mapP hp6 fun _ _ h => ((h.new nd7).mono sA).mono (hid_sub fun b hb => List.mem_cons_of_mem _ hb)) hd11
      · rw [hid_in (by simp)]
        exact ((hb7.new nd7).mono sA).mono (hid_sub fun b hb => List.mem_cons_of_mem _ hb)
  · rintro σ H6 ⟨c', v2, v5, v6, v7, ds, ms, rfl, st6, hc6, s6, hl6, hp6, hb6, mg6, ml6⟩
    exact ⟨_, rfl, k l ms c' H6 nl0 ⟨ds, hid_of (by simp [nlp, nlq]) hl6, L2.Paired.mapP hp6 fun _ _ h => h.mono (hid_sub fun b hb => List.mem_cons_of_mem _ hb)⟩ mg6 (fun e => by rw [e] at ml6; cases ml6) (by omega) st6 (by omega) s6⟩)
end
end K9

/-! ## L9 -/
set_option maxHeartbeats 2000000
namespace K9
open PySem PySem.Spec PyProof.Rows L2
/-! ### displays of maps -/
structure DTr (σ : L2.St) (kv : Str × List Str) (tr : TE × TE) : Prop where
  k : ∀ H Q, Q (.str kv.1) H → tr.1 σ H Q
  v : ∀ H Q, (∀ b, H b = none → Q (.ref b) (upd H b (.lst (kv.2.map V.str)))) → tr.2 σ H Q
theorem pairs_ok {σ : L2.St} : ∀ {kvs : List (Str × List Str)} {trs : List (TE × TE)}, Paired (DTr σ) kvs trs → ∀ {H : Hp} {S : List Addr}, (∀ b ∈ S, ∃ o, H b = some o) → ∀ {Q : List (V × V) → Hp → Prop},
    (∀ bs H', Same H H' → Paired (fun b (kv : Str × List Str) => Strs (hid S H') b kv.2) bs kvs → Q (List.zipWith (fun b (kv : Str × List Str) => (V.str kv.1, V.ref b)) bs kvs) H') → tPairs trs σ H Q
  | _, _, .nil, H, S, hS, Q, q => q [] H (.refl _) .nil
  | _, _, @Paired.cons _ _ _ kv tr kvs trs r t, H, S, hS, Q, q => by
    refine r.k H _ (r.v H _ fun b nb => ?_)
    have sb := same_new (o := .lst (kv.2.map V.str)) nb
    refine pairs_ok t (S := S) (fun c hc => let ⟨o, ho⟩ := hS c hc; ⟨o, sb _ _ ho⟩) fun bs H' s p => ?_
    exact q (b :: bs) H' (sb.trans s) (.cons (hid_of (nin_of hS (.refl _) nb) (s _ _ upd_same)) p)
theorem pairs_fun {R : Addr → List Str → Prop} : ∀ {bs : List Addr} {kvs : List (Str × List Str)}, Paired (fun b (kv : Str × List Str) => R b kv.2) bs kvs → (kvs.map (·.1)).Nodup →
    ∃ (ad : Str → Addr) (m : Mp), (∀ kv ∈ kvs, m kv.1 = kv.2 ∧ R (ad kv.1) kv.2) ∧ List.zipWith (fun b (kv : Str × List Str) => ((Sum.inr kv.1 : Key), V.ref b)) bs kvs = mkv (kvs.map (·.1)) ad
  | _, _, .nil, _ => ⟨fun _ => 0, fun _ => [], fun _ h => (by cases h), rfl⟩
  | _, _, @Paired.cons _ _ _ b kv bs kvs r t, nd => by
    rw [List.map_cons, List.nodup_cons] at nd
    obtain ⟨ad, m, h1, h2⟩ := pairs_fun t nd.2
    have nk : ∀ kv' ∈ kvs, ¬ kv'.1 = kv.1 := fun kv' h e => nd.1 (List.mem_map.mpr ⟨kv', h, e⟩)
    refine ⟨fun x => if x = kv.1 then b else ad x, fun x => if x = kv.1 then kv.2 else m x, fun kv' h => ?_, ?_⟩
    · rcases List.mem_cons.mp h with e | h
      · subst e
        simp only [if_pos]
        exact ⟨trivial, r⟩
      · simp only [if_neg (nk kv' h)]
        exact h1 kv' h
    · rw [List.zipWith_cons_cons, h2, List.map_cons]
      show _ = ((Sum.inr kv.1 : Key), V.ref (if kv.1 = kv.1 then b else ad kv.1)) :: _
      rw [if_pos rfl]
      refine congrArg (_ :: ·) (List.map_congr_left fun x hx => ?_)
      show ((Sum.inr x : Key), V.ref (ad x)) = ((Sum.inr x : Key), V.ref (if x = kv.1 then b else ad x))
      rw [if_neg (show ¬ x = kv.1 from fun e => nd.1 (by rw [← e]; exact hx))]
theorem disp_map {σ : L2.St} {H : Hp} {Q : VK} {kvs : List (Str × List Str)} {trs : List (TE × TE)} (hT : Paired (DTr σ) kvs trs) (nd : (kvs.map (·.1)).Nodup) (hl : kvs.length ≤ 15) (S : List Addr) (hS : ∀ b ∈ S, ∃ o, H b = some o)
    (q : ∀ d m H', H d = none → Same H H' → (∀ kv ∈ kvs, m kv.1 = kv.2) → MapP (hid S H') (kvs.map (·.1)) d m → Q (.ref d) H') : tDisp trs σ H Q := by
  intro d nd0
  have sd := same_new (o := .dK []) nd0
  have hS' : ∀ b ∈ d :: S, ∃ o, upd H d (.dK []) b = some o := fun b hb => by
    rcases List.mem_cons.mp hb with e | e
    · rw [e]; exact ⟨_, upd_same⟩
    · obtain ⟨o, ho⟩ := hS b e
      exact ⟨o, sd _ _ ho⟩
  refine pairs_ok hT hS' fun bs H' s p => ?_
  obtain ⟨ad, m, h1, h2⟩ := pairs_fun (R := fun b us => Strs (hid (d :: S) H') b us) p nd
  refine ⟨s _ _ upd_same, List.zipWith (fun b (kv : Str × List Str) => ((Sum.inr kv.1 : Key), V.ref b)) bs kvs, ?_, by rw [List.length_zipWith]; omega, ?_⟩
  · rw [List.map_zipWith]
    rfl
  · rw [h2, show mergeK [] (mkv (kvs.map (·.1)) ad) = mkv (kvs.map (·.1)) ad from merge_mkv _ [] (by simpa using nd)]
    refine q d m _ nd0 (same_mut (sd.trans s) nd0) (fun kv h => (h1 kv h).1) ⟨_, ad, .refl _, hid_of (nin_of hS (.refl _) nd0) upd_same, fun x hx => ?_⟩
    obtain ⟨kv, hk, rfl⟩ := List.mem_map.mp hx
    have h3 := (h1 kv hk).2
    have h4 := hid_at h3
    refine hid_of (fun z => h4.1 (List.mem_cons_of_mem _ z)) ?_
    rw [upd_ne (fun z => h4.1 (by rw [z]; simp)), (h1 kv hk).1]
    exact h4.2
/-- good at some keys -/
structure GMk (xs ks : List Str) (m : Mp) : Prop where
  self : ∀ k ∈ ks, k ∈ m k
  sub : ∀ k ∈ ks, ∀ o ∈ m k, o ∈ xs
  nd : ∀ k ∈ ks, (m k).Nodup
  len : ∀ k ∈ ks, (m k).length ≤ 5
theorem GMk.of {xs : List Str} {kvs : List (Str × List Str)} {m : Mp} (h : ∀ kv ∈ kvs, m kv.1 = kv.2) (g : ∀ kv ∈ kvs, kv.1 ∈ kv.2 ∧ (∀ o ∈ kv.2, o ∈ xs) ∧ kv.2.Nodup ∧ kv.2.length ≤ 5) : GMk xs (kvs.map (·.1)) m := by
  refine ⟨fun k hk => ?_, fun k hk => ?_, fun k hk => ?_, fun k hk => ?_⟩ <;> obtain ⟨kv, h1, rfl⟩ := List.mem_map.mp hk <;> rw [h kv h1]
  · exact (g kv h1).1
  · exact (g kv h1).2.1
  · exact (g kv h1).2.2.1
  · exact (g kv h1).2.2.2
theorem GMk.perm {xs ks ls : List Str} {m : Mp} (p : ks.Perm ls) (h : GMk xs ks m) : GMk xs ls m := ⟨fun k hk => h.self k (p.mem_iff.mpr hk), fun k hk => h.sub k (p.mem_iff.mpr hk), fun k hk => h.nd k (p.mem_iff.mpr hk), fun k hk => h.len k (p.mem_iff.mpr hk)⟩
theorem GMk.gm {xs : List Str} {m : Mp} (h : GMk xs xs m) : GM xs m := ⟨h.self, h.sub, h.nd⟩
theorem GMk.all {xs : List Str} {ms : List Mp} (h : ∀ m ∈ ms, GMk xs xs m) : MG xs ms := ⟨fun m hm => (h m hm).gm, fun m hm => (h m hm).len⟩
theorem GMk.put {xs ks : List Str} {m : Mp} {k : Str} {us : List Str} (h : GMk xs ks m) (g : k ∈ us ∧ (∀ o ∈ us, o ∈ xs) ∧ us.Nodup ∧ us.length ≤ 5) : GMk xs (ks ++ [k]) (fun x => if x = k then us else m x) := by
  have key : ∀ x ∈ ks ++ [k], x = k ∨ (¬ x = k ∧ x ∈ ks) := fun x hx => by
    by_cases e : x = k
    · exact .inl e
    · refine .inr ⟨e, ?_⟩
      rcases List.mem_append.mp hx with z | z
      · exact z
      · exact absurd (List.mem_singleton.mp z) e
  refine ⟨fun x hx => ?_, fun x hx => ?_, fun x hx => ?_, fun x hx => ?_⟩ <;> rcases key x hx with e | ⟨e, hx'⟩
  · simp only [if_pos e]; rw [e]; exact g.1
  · simp only [if_neg e]; exact h.self x hx'
  · simp only [if_pos e]; exact g.2.1
  · simp only [if_neg e]; exact h.sub x hx'
  · simp only [if_pos e]; exact g.2.2.1
  · simp only [if_neg e]; exact h.nd x hx'
  · simp only [if_pos e]; exact g.2.2.2
  · simp only [if_neg e]; exact h.len x hx'
/-- a key more -/
theorem mapP_add {S : List Addr} {H : Hp} {xs : List Str} {d b : Addr} {m : Mp} {k : Str} {us : List Str} (h : MapP (hid S H) xs d m) (hk : k ∉ xs) (hb : Strs (hid S H) b us) :
    ∃ kvs, H d = some (.dK kvs) ∧ kvs.length = xs.length ∧ MapP (hid S (upd H d (.dK (putK kvs (Sum.inr k : Key) (.ref b))))) (xs ++ [k]) d (fun x => if x = k then us else m x) := by
  obtain ⟨ks, ad, hp, hd, ha⟩ := h
  have hd2 := hid_at hd
  have up : ∀ {c : Addr} {us : List Str} {u : HO}, Strs (hid S H) c us → Strs (hid S (upd H d u)) c us := fun {c us u} hc => by
    have hc2 := hid_at hc
    refine hid_of hc2.1 ?_
    rw [upd_ne (ne_of hc2.2 hd2.2 (fun z => by cases z))]
    exact hc2.2
  refine ⟨_, hd2.2, by rw [mkv_len, hp.length_eq], ks ++ [k], _, hp.append_right _, hid_of hd2.1 (by rw [upd_same, mkv_put (fun z => hk (hp.mem_iff.mp z))]), fun x hx => ?_⟩
  by_cases e : x = k
  · simp only [if_pos e]
    exact up hb
  · simp only [if_neg e]
    refine up (ha x ?_)
    rcases List.mem_append.mp hx with z | z
    · exact z
    · exact absurd (List.mem_singleton.mp z) e
theorem MapP.hide {S : List Addr} {H : Hp} {xs : List Str} {d e : Addr} {m : Mp} {kvs : List (Key × V)} (h : MapP (hid S H) xs d m) (n : d ≠ e) (he : H e = some (.dK kvs)) : MapP (hid (e :: S) H) xs d m := by
  obtain ⟨ks, ad, hp, hd, ha⟩ := h
  refine ⟨ks, ad, hp, hid_of (fun z => ?_) (hid_at hd).2, fun k hk => hid_of (fun z => ?_) (hid_at (ha k hk)).2⟩
  · rcases List.mem_cons.mp z with z | z
    · exact n z
    · exact (hid_at hd).1 z
  · rcases List.mem_cons.mp z with z | z
    · exact ne_of (hid_at (ha k hk)).2 he (fun z => by cases z) z
    · exact (hid_at (ha k hk)).1 z
end K9

/-! ## L10 -/
set_option maxHeartbeats 2000000
namespace K9
open PySem PySem.Spec PyProof.Rows L2
theorem sz1 : 1 ≤ sizeLine := by decide
theorem sz2 : 2 ≤ sizeLine := by decide
theorem sz3 : 3 ≤ sizeLine := by decide
theorem gk1 {xs : List Str} {a : Str} (h : a ∈ xs) : a ∈ [a] ∧ (∀ o ∈ [a], o ∈ xs) ∧ [a].Nodup ∧ [a].length ≤ 5 := ⟨by simp, fun o ho => by rw [List.mem_singleton.mp ho]; exact h, by simp, by simp⟩
theorem gk2 {xs : List Str} {a b k : Str} (n : a ≠ b) (ha : a ∈ xs) (hb : b ∈ xs) (hk : k = a ∨ k = b) : k ∈ [a, b] ∧ (∀ o ∈ [a, b], o ∈ xs) ∧ [a, b].Nodup ∧ [a, b].length ≤ 5 :=
  ⟨by rcases hk with e | e <;> simp [e], fun o ho => by simp at ho; rcases ho with e | e <;> rw [e] <;> assumption, by simpa using n, by simp⟩
section
variable {P : Program} {w : World} {K : PySem.W.Frag} {mg : Str → Option Value} {base : Heap}
theorem sc_l_m_deep : FnScope ["_law_stream", "_law_hands_here", "_law_a", "_law_b", "_law_c", "_law_d", "_law_found"] ["_law_stream", "_law_hands_here"] (defScope s_l_m_deep) := ⟨rfl, rfl, rfl, by decide +kernel, rfl, by decide +kernel, by decide +kernel⟩
theorem ok_l_m_deep (T : Tx K mg) : Ok P w K mg base CX0 4 "_law_m_deep" ["_law_stream", "_law_hands_here"] (spSome fun xs => xs.length = 4) :=
  ok_of T d_l_m_deep (by unfold fn; simp) rfl rfl rfl rfl rfl rfl (by decide +kernel) sc_l_m_deep (fun _ _ _ _ _ _ us hl => match us, hl with | [_, _], _ => rfl) (fun vs H Q E ⟨_, _, _, _, _, h, _⟩ => by subst h; rfl) (fun f cdv A outer s H vs Q E hr h => by
  obtain ⟨p, q, c, ar, xs, rfl, st, hc, har, nd, h2, h4, so, e4, k⟩ := h
  refine ⟨_, PSs.nox (pss_cons (ps_asg (pe_c (ok_l_mixed T) (hr.mono (by first | decide | omega)) pass0 (pa_cons (pv 0) (pa_cons (pv 1) pa_nil))) (pg_unl (n := 4) rfl (pgs_cons (pg_name (i := 2) sc_l_m_deep.nd rfl (by first | exact Or.inl rfl | exact Or.inr rfl)) (pgs_cons (pg_name (i := 3) sc_l_m_deep.nd rfl (by first | exact Or.inl rfl | exact Or.inr rfl)) (pgs_cons (pg_name (i := 4) sc_l_m_deep.nd rfl (by first | exact Or.inl rfl | exact Or.inr rfl)) (pgs_cons (pg_name (i := 5) sc_l_m_deep.nd rfl (by first | exact Or.inl rfl | exact Or.inr rfl)) pgs_nil))))))
    (pss_cons (ps_set (i := 6) sc_l_m_deep.nd rfl (by first | exact Or.inl rfl | exact Or.inr rfl) (pe_lst (pa_cons (pe_disp (pps_cons (pv 2) (pe_lst (pa_cons (pv 2) pa_nil)) (pps_cons (pv 3) (pe_lst (pa_cons (pv 3) (pa_cons (pv 2) pa_nil))) (pps_cons (pv 4) (pe_lst (pa_cons (pv 4) (pa_cons (pv 2) pa_nil))) (pps_cons (pv 5) (pe_lst (pa_cons (pv 5) (pa_cons (pv 2) pa_nil))) pps_nil)))) (by rfl) (by rfl) (fun z => by cases z) (by decide)) (pa_cons (pe_disp (pps_cons (pv 2) (pe_lst (pa_cons (pv 2) (pa_cons (pv 3) pa_nil))) (pps_cons (pv 3) (pe_lst (pa_cons (pv 3) pa_nil)) (pps_cons (pv 4) (pe_lst (pa_cons (pv 2) (pa_cons (pv 4) pa_nil))) (pps_cons (pv 5) (pe_lst (pa_cons (pv 5) (pa_cons (pv 3) pa_nil))) pps_nil)))) (by rfl) (by rfl) (fun z => by cases z) (by decide)) pa_nil))))
    (pss_one (ps_ret (pe_op op_cat (pv 6) (pe_lst (pa_cons (pe_disp (pps_cons (pv 2) (pe_lst (pa_cons (pv 2) (pa_cons (pv 4) pa_nil))) (pps_cons (pv 3) (pe_lst (pa_cons (pv 3) (pa_cons (pv 4) pa_nil))) (pps_cons (pv 4) (pe_lst (pa_cons (pv 4) pa_nil)) (pps_cons (pv 5) (pe_lst (pa_cons (pv 2) (pa_cons (pv 5) pa_nil))) pps_nil)))) (by rfl) (by rfl) (fun z => by cases z) (by decide)) (pa_cons (pe_disp (pps_cons (pv 2) (pe_lst (pa_cons (pv 2) (pa_cons (pv 5) pa_nil))) (pps_cons (pv 3) (pe_lst (pa_cons (pv 3) (pa_cons (pv 5) pa_nil))) (pps_cons (pv 4) (pe_lst (pa_cons (pv 4) (pa_cons (pv 5) pa_nil))) (pps_cons (pv 5) (pe_lst (pa_cons (pv 5) pa_nil)) pps_nil)))) (by rfl) (by rfl) (fun z => by cases z) (by decide)) pa_nil)))))))), ?_⟩
  refine ⟨_, rfl, _, rfl, p, q, c, ar, xs.map V.str, rfl, st, by rw [List.length_map]; omega, har, by rw [List.length_map]; omega, fun D ys H1 nD hp hD st1 s1 => ?_⟩
  obtain ⟨zs, hz, rfl⟩ := perm_str hp
  have hzl := hz.length_eq
  rw [List.length_map] at st1
  obtain ⟨a, b, c1, d, rfl⟩ : ∃ a b c d, zs = [a, b, c, d] := by
    match zs, hzl.trans e4 with
    | [a, b, c, d], _ => exact ⟨a, b, c, d, rfl⟩
  have ndz := hz.nodup_iff.mpr nd
  have ndz' := ndz
  simp only [List.nodup_cons, List.mem_cons, List.not_mem_nil, or_false, not_or, not_false_eq_true, List.nodup_nil, and_true] at ndz'
  obtain ⟨⟨nab, nac, nad⟩, ⟨nbc, nbd⟩, ncd⟩ := ndz'
  have ia : a ∈ xs := hz.mem_iff.mp (by simp)
  have ib : b ∈ xs := hz.mem_iff.mp (by simp)
  have ic : c1 ∈ xs := hz.mem_iff.mp (by simp)
  have id' : d ∈ xs := hz.mem_iff.mp (by simp)
  refine ⟨D, _, rfl, SqL.of (hid_le _ _ hD), rfl, _, _, rfl, _, _, rfl, _, _, rfl, _, _, rfl, rfl, ?_⟩
  have ex : ∀ {H' : Hp}, Same H1 H' → ∀ b ∈ [p, q], ∃ o, H' b = some o := fun s b hb => by
    obtain ⟨e1, e2⟩ := (st1.mono s).tr
    simp at hb
    rcases hb with e | e <;> rw [e] <;> assumption
  try dsimp only [tSeq, tAsg, tLst, tCons, tRet, tOp]
  refine disp_map (kvs := [(a, [a]), (b, [b, a]), (c1, [c1, a]), (d, [d, a])]) ?_ ndz (by simp) [p, q] (ex (.refl _)) fun d1 m1 H2 nd1 s2 hm1 hP1 => ?_
  · exact (.cons ⟨fun H Q q => ⟨_, rfl, q⟩, fun H Q q => ⟨_, rfl, sz1, q⟩⟩ (.cons ⟨fun H Q q => ⟨_, rfl, q⟩, fun H Q q => ⟨_, rfl, _, rfl, sz2, q⟩⟩ (.cons ⟨fun H Q q => ⟨_, rfl, q⟩, fun H Q q => ⟨_, rfl, _, rfl, sz2, q⟩⟩ (.cons ⟨fun H Q q => ⟨_, rfl, q⟩, fun H Q q => ⟨_, rfl, _, rfl, sz2, q⟩⟩ .nil))))
  try dsimp only [tSeq, tAsg, tLst, tCons, tRet, tOp]
  refine disp_map (kvs := [(a, [a, b]), (b, [b]), (c1, [a, c1]), (d, [d, b])]) ?_ ndz (by simp) [p, q] (ex s2) fun d2 m2 H3 nd2 s3 hm2 hP2 => ?_
  · exact (.cons ⟨fun H Q q => ⟨_, rfl, q⟩, fun H Q q => ⟨_, rfl, _, rfl, sz2, q⟩⟩ (.cons ⟨fun H Q q => ⟨_, rfl, q⟩, fun H Q q => ⟨_, rfl, sz1, q⟩⟩ (.cons ⟨fun H Q q => ⟨_, rfl, q⟩, fun H Q q => ⟨_, rfl, _, rfl, sz2, q⟩⟩ (.cons ⟨fun H Q q => ⟨_, rfl, q⟩, fun H Q q => ⟨_, rfl, _, rfl, sz2, q⟩⟩ .nil))))
  refine ⟨sz2, fun l1 nl1 => ?_⟩
  have s4 := same_new (o := .lst [.ref d1, .ref d2]) nl1
  have s14 := (s2.trans s3).trans s4
  refine ⟨_, rfl, ?_⟩
  try dsimp only [tSeq, tAsg, tLst, tCons, tRet, tOp]
  refine disp_map (kvs := [(a, [a, c1]), (b, [b, c1]), (c1, [c1]), (d, [a, d])]) ?_ ndz (by simp) [p, q] (ex s14) fun d3 m3 H5 nd3 s5 hm3 hP3 => ?_
  · exact (.cons ⟨fun H Q q => ⟨_, rfl, q⟩, fun H Q q => ⟨_, rfl, _, rfl, sz2, q⟩⟩ (.cons ⟨fun H Q q => ⟨_, rfl, q⟩, fun H Q q => ⟨_, rfl, _, rfl, sz2, q⟩⟩ (.cons ⟨fun H Q q => ⟨_, rfl, q⟩, fun H Q q => ⟨_, rfl, sz1, q⟩⟩ (.cons ⟨fun H Q q => ⟨_, rfl, q⟩, fun H Q q => ⟨_, rfl, _, rfl, sz2, q⟩⟩ .nil))))
  try dsimp only [tSeq, tAsg, tLst, tCons, tRet, tOp]
  refine disp_map (kvs := [(a, [a, d]), (b, [b, d]), (c1, [c1, d]), (d, [d])]) ?_ ndz (by simp) [p, q] (ex (s14.trans s5)) fun d4 m4 H6 nd4 s6 hm4 hP4 => ?_
  · exact (.cons ⟨fun H Q q => ⟨_, rfl, q⟩, fun H Q q => ⟨_, rfl, _, rfl, sz2, q⟩⟩ (.cons ⟨fun H Q q => ⟨_, rfl, q⟩, fun H Q q => ⟨_, rfl, _, rfl, sz2, q⟩⟩ (.cons ⟨fun H Q q => ⟨_, rfl, q⟩, fun H Q q => ⟨_, rfl, _, rfl, sz2, q⟩⟩ (.cons ⟨fun H Q q => ⟨_, rfl, q⟩, fun H Q q => ⟨_, rfl, sz1, q⟩⟩ .nil))))
  refine ⟨sz2, fun l2 nl2 => ?_⟩
  have s7 := same_new (o := .lst [.ref d3, .ref d4]) nl2
  have s57 := (s5.trans s6).trans s7
  refine ⟨l1, l2, _, _, rfl, rfl, s57 _ _ upd_same, upd_same, (by show 4 ≤ sizeLine; decide), fun l nl => ?_⟩
  have s8 := same_new (o := .lst ([.ref d1, .ref d2] ++ [.ref d3, .ref d4])) nl
  have sE := (s14.trans s57).trans s8
  obtain ⟨nlp, nlq⟩ := (st1.mono (s14.trans s57)).pn nl
  have gg : ∀ {m : Mp} {kvs : List (Str × List Str)}, kvs.map (·.1) = [a, b, c1, d] → (∀ kv ∈ kvs, m kv.1 = kv.2) → (∀ kv ∈ kvs, kv.1 ∈ kv.2 ∧ (∀ o ∈ kv.2, o ∈ xs) ∧ kv.2.Nodup ∧ kv.2.length ≤ 5) → GMk xs xs m := fun ek h g => by
    have := GMk.of h g
    rw [ek] at this
    exact this.perm hz
  refine k l [m1, m2, m3, m4] _ _ (kp_no s1 st1 ((s14.trans s57).free nl) st) ⟨[d1, d2, d3, d4], hid_of (by simp [nlp, nlq]) upd_same, .cons ((hP1.perm hz).mono (same_hid (((s3.trans s4).trans s57).trans s8))) (.cons ((hP2.perm hz).mono (same_hid ((s4.trans s57).trans s8))) (.cons ((hP3.perm hz).mono (same_hid ((s6.trans s7).trans s8))) (.cons ((hP4.perm hz).mono (same_hid (s7.trans s8))) .nil)))⟩ (GMk.all fun m hm => ?_) (by simp) (by simp) (st1.mono sE) (by omega) (Same.trans s1 (same_hid sE))
  simp only [List.mem_cons, List.not_mem_nil, or_false] at hm
  rcases hm with rfl | rfl | rfl | rfl
  · refine gg rfl hm1 fun kv hk => ?_
    simp only [List.mem_cons, List.not_mem_nil, or_false] at hk
    rcases hk with rfl | rfl | rfl | rfl
    · exact gk1 ia
    · exact gk2 (Ne.symm nab) ib ia (.inl rfl)
    · exact gk2 (Ne.symm nac) ic ia (.inl rfl)
    · exact gk2 (Ne.symm nad) id' ia (.inl rfl)
  · refine gg rfl hm2 fun kv hk => ?_
    simp only [List.mem_cons, List.not_mem_nil, or_false] at hk
    rcases hk with rfl | rfl | rfl | rfl
    · exact gk2 nab ia ib (.inl rfl)
    · exact gk1 ib
    · exact gk2 nac ia ic (.inr rfl)
    · exact gk2 (Ne.symm nbd) id' ib (.inl rfl)
  · refine gg rfl hm3 fun kv hk => ?_
    simp only [List.mem_cons, List.not_mem_nil, or_false] at hk
    rcases hk with rfl | rfl | rfl | rfl
    · exact gk2 nac ia ic (.inl rfl)
    · exact gk2 nbc ib ic (.inl rfl)
    · exact gk1 ic
    · exact gk2 nad ia id' (.inr rfl)
  · refine gg rfl hm4 fun kv hk => ?_
    simp only [List.mem_cons, List.not_mem_nil, or_false] at hk
    rcases hk with rfl | rfl | rfl | rfl
    · exact gk2 nad ia id' (.inl rfl)
    · exact gk2 nbd ib id' (.inl rfl)
    · exact gk2 ncd ic id' (.inl rfl)
    · exact gk1 id')
end
end K9

/-! ## L11 -/
set_option maxHeartbeats 2000000
namespace K9
open PySem PySem.Spec PyProof.Rows L2
theorem MapP.there {S : List Addr} {H : Hp} {xs : List Str} {d : Addr} {m : Mp} (h : MapP (hid S H) xs d m) : ∃ kvs, H d = some (.dK kvs) := let ⟨_, _, _, h, _⟩ := h; ⟨_, (hid_at h).2⟩
def abcF (a b c : Str) (x : Str) : Bool := !decide (x ∈ [a, b, c])
section
variable {P : Program} {w : World} {K : PySem.W.Frag} {mg : Str → Option Value} {base : Heap}
theorem sc_l_m_nested : FnScope ["_law_stream", "_law_hands_here", "_law_a", "_law_b", "_law_c", "_law_found", "_law_one", "_law_hand"] ["_law_stream", "_law_hands_here"] (defScope s_l_m_nested) := ⟨rfl, rfl, rfl, by decide +kernel, rfl, by decide +kernel, by decide +kernel⟩
structure NInv (xs abc : List Str) (p q l : Addr) (ds : Nat → Addr) (H0 H : Hp) (c : Nat) (ks : Nat → List Str) (ms : Nat → Mp) : Prop where
  st : Stm H p q c
  kp : Kp p q H0 H
  l : H l = some (.lst [.ref (ds 0), .ref (ds 1), .ref (ds 2)])
  at_ : ∀ j, j < 3 → MapP (hid [p, q] H) (ks j) (ds j) (ms j) ∧ GMk xs (ks j) (ms j)
theorem ok_l_m_nested (T : Tx K mg) : Ok P w K mg base CX0 4 "_law_m_nested" ["_law_stream", "_law_hands_here"] (spSome fun xs => 3 ≤ xs.length) :=
  ok_of T d_l_m_nested (by unfold fn; simp) rfl rfl rfl rfl rfl rfl (by decide +kernel) sc_l_m_nested (fun _ _ _ _ _ _ us hl => match us, hl with | [_, _], _ => rfl) (fun vs H Q E ⟨_, _, _, _, _, h, _⟩ => by subst h; rfl) (fun f cdv A outer s H vs Q E hr h => by
  obtain ⟨p, q, c, ar, xs, rfl, st, hc, har, nd, h2, h4, so, e3, k⟩ := h
  have hu := hu_of hr
  refine ⟨_, PSs.nox (pss_cons (ps_asg (pe_slice (sl_listk K) (pe_c (ok_l_mixed T) (hr.mono (by first | decide | omega)) pass0 (pa_cons (pv 0) (pa_cons (pv 1) pa_nil))) po_none (po_some pe_int)) (pg_unl (n := 3) rfl (pgs_cons (pg_name (i := 2) sc_l_m_nested.nd rfl (by first | exact Or.inl rfl | exact Or.inr rfl)) (pgs_cons (pg_name (i := 3) sc_l_m_nested.nd rfl (by first | exact Or.inl rfl | exact Or.inr rfl)) (pgs_cons (pg_name (i := 4) sc_l_m_nested.nd rfl (by first | exact Or.inl rfl | exact Or.inr rfl)) pgs_nil)))))
    (pss_cons (ps_set (i := 5) sc_l_m_nested.nd rfl (by first | exact Or.inl rfl | exact Or.inr rfl) (pe_lst (pa_cons (pe_disp (pps_cons (pv 2) (pe_lst (pa_cons (pv 2) pa_nil)) (pps_cons (pv 3) (pe_lst (pa_cons (pv 2) (pa_cons (pv 3) pa_nil))) (pps_cons (pv 4) (pe_lst (pa_cons (pv 4) (pa_cons (pv 2) pa_nil))) pps_nil))) (by rfl) (by rfl) (fun z => by cases z) (by decide)) (pa_cons (pe_disp (pps_cons (pv 3) (pe_lst (pa_cons (pv 3) pa_nil)) (pps_cons (pv 2) (pe_lst (pa_cons (pv 3) (pa_cons (pv 2) pa_nil))) (pps_cons (pv 4) (pe_lst (pa_cons (pv 2) (pa_cons (pv 4) pa_nil))) pps_nil))) (by rfl) (by rfl) (fun z => by cases z) (by decide)) (pa_cons (pe_disp (pps_cons (pv 4) (pe_lst (pa_cons (pv 4) pa_nil)) (pps_cons (pv 2) (pe_lst (pa_cons (pv 2) (pa_cons (pv 4) pa_nil))) (pps_cons (pv 3) (pe_lst (pa_cons (pv 3) (pa_cons (pv 4) pa_nil))) pps_nil))) (by rfl) (by rfl) (fun z => by cases z) (by decide)) pa_nil)))))
    (pss_cons (ps_for PassesOwn.never rfl (pi_listk K (pv 5)) (pg_name (i := 6) sc_l_m_nested.nd rfl (by first | exact Or.inl rfl | exact Or.inr rfl))
      (pss_one (ps_for PassesOwn.never rfl (pi_listk K (pv 1)) (pg_name (i := 7) sc_l_m_nested.nd rfl (by first | exact Or.inl rfl | exact Or.inr rfl))
        (pss_one (ps_if (pt_cmpR (op_notIn_seqk K) (pv 7) (pe_tup (pa_cons (pv 2) (pa_cons (pv 3) (pa_cons (pv 4) pa_nil)))) (by rfl)) (pss_one (ps_dput hu (pv 6) (pv 7) (pe_lst (pa_cons (pv 7) (pa_cons (pv 4) pa_nil))) rfl)) pss_nil)))))
    (pss_one (ps_ret (pv 5)))))), ?_⟩
  refine ⟨_, rfl, _, rfl, p, q, c, ar, xs.map V.str, rfl, st, by rw [List.length_map]; omega, har, by rw [List.length_map]; omega, fun D ys H0 nD hp hD st0 s0 => ?_⟩
  obtain ⟨zs, hz, rfl⟩ := perm_str hp
  have hzl := hz.length_eq
  rw [List.length_map] at st0
  obtain ⟨a, b, c1, rest, rfl⟩ : ∃ a b c r, zs = a :: b :: c :: r := by
    match zs, (show 3 ≤ zs.length by rw [hzl]; exact e3) with
    | a :: b :: c :: r, _ => exact ⟨a, b, c, r, rfl⟩
  have ndz := hz.nodup_iff.mpr nd
  have nd3 : [a, b, c1].Nodup := by
    have e : a :: b :: c1 :: rest = [a, b, c1] ++ rest := rfl
    rw [e, List.nodup_append] at ndz
    exact ndz.1
  have nd3' := nd3
  simp only [List.nodup_cons, List.mem_cons, List.not_mem_nil, or_false, not_or, not_false_eq_true, List.nodup_nil, and_true] at nd3'
  obtain ⟨⟨nab, nac⟩, nbc⟩ := nd3'
  have ia : a ∈ xs := hz.mem_iff.mp (by simp)
  have ib : b ∈ xs := hz.mem_iff.mp (by simp)
  have ic : c1 ∈ xs := hz.mem_iff.mp (by simp)
  -- the slice
  refine ⟨_, rfl, D, _, rfl, SqL.of (hid_le _ _ hD), fun r nr => ?_⟩
  have ecut : cutV ((a :: b :: c1 :: rest).map V.str) none (some 3) = [V.str a, V.str b, V.str c1] := cut_take _ 3
  have sr := same_new (o := .lst (cutV ((a :: b :: c1 :: rest).map V.str) none (some 3))) nr
  generalize hH1 : upd H0 r (.lst (cutV ((a :: b :: c1 :: rest).map V.str) none (some 3))) = H1 at sr
  have st1 := st0.mono sr
  have s1 := Same.trans s0 (same_hid sr)
  refine ⟨r, [V.str a, V.str b, V.str c1], rfl, SqL.of (by rw [← hH1, upd_same, ecut]), rfl, _, _, rfl, _, _, rfl, _, _, rfl, rfl, ?_⟩
  have ex : ∀ {H' : Hp}, Same H1 H' → ∀ b ∈ [p, q], ∃ o, H' b = some o := fun s b hb => by
    obtain ⟨e1, e2⟩ := (st1.mono s).tr
    simp at hb
    rcases hb with e | e <;> rw [e] <;> assumption
  try dsimp only [tSeq, tAsg, tLst, tCons, tRet, tOp]
  refine disp_map (kvs := [(a, [a]), (b, [a, b]), (c1, [c1, a])]) ?_ nd3 (by simp) [p, q] (ex (.refl _)) fun d1 m1 H2 nd1 s2 hm1 hP1 => ?_
  · exact .cons ⟨fun H Q q => ⟨_, rfl, q⟩, fun H Q q => ⟨_, rfl, sz1, q⟩⟩ (.cons ⟨fun H Q q => ⟨_, rfl, q⟩, fun H Q q => ⟨_, rfl, _, rfl, sz2, q⟩⟩ (.cons ⟨fun H Q q => ⟨_, rfl, q⟩, fun H Q q => ⟨_, rfl, _, rfl, sz2, q⟩⟩ .nil))
  refine disp_map (kvs := [(b, [b]), (a, [b, a]), (c1, [a, c1])]) ?_ (by simp [nab, nac, nbc, Ne.symm nab]) (by simp) [p, q] (ex s2) fun d2 m2 H3 nd2 s3 hm2 hP2 => ?_
  · exact .cons ⟨fun H Q q => ⟨_, rfl, q⟩, fun H Q q => ⟨_, rfl, sz1, q⟩⟩ (.cons ⟨fun H Q q => ⟨_, rfl, q⟩, fun H Q q => ⟨_, rfl, _, rfl, sz2, q⟩⟩ (.cons ⟨fun H Q q => ⟨_, rfl, q⟩, fun H Q q => ⟨_, rfl, _, rfl, sz2, q⟩⟩ .nil))
  refine disp_map (kvs := [(c1, [c1]), (a, [a, c1]), (b, [b, c1])]) ?_ (by simp [nab, Ne.symm nac, Ne.symm nbc]) (by simp) [p, q] (ex (s2.trans s3)) fun d3 m3 H4 nd3' s4 hm3 hP3 => ?_
  · exact .cons ⟨fun H Q q => ⟨_, rfl, q⟩, fun H Q q => ⟨_, rfl, sz1, q⟩⟩ (.cons ⟨fun H Q q => ⟨_, rfl, q⟩, fun H Q q => ⟨_, rfl, _, rfl, sz2, q⟩⟩ (.cons ⟨fun H Q q => ⟨_, rfl, q⟩, fun H Q q => ⟨_, rfl, _, rfl, sz2, q⟩⟩ .nil))
  refine ⟨sz3, fun l nl => ?_⟩
  have s5 := same_new (o := .lst [.ref d1, .ref d2, .ref d3]) nl
  have s14 := (s2.trans s3).trans s4
  have s15 := s14.trans s5
  obtain ⟨nlp, nlq⟩ := (st1.mono s14).pn nl
  have hl0 : H l = none := kp_no s1 st1 (s14.free nl) st
  obtain ⟨q1, hq1⟩ := hP1.there
  obtain ⟨q2, hq2⟩ := hP2.there
  have h1d : H3 d1 ≠ none := fun z => by have := s3 _ _ hq1; rw [z] at this; cases this
  have h2d : H3 d2 ≠ none := fun z => by rw [z] at hq2; cases hq2
  have n12 : d1 ≠ d2 := fun z => by
    rw [z, nd2] at hq1
    cases hq1
  have n13 : d1 ≠ d3 := fun z => h1d (by rw [z]; exact nd3')
  have n23 : d2 ≠ d3 := fun z => h2d (by rw [z]; exact nd3')
  obtain ⟨ds, e0, e1, e2⟩ : ∃ ds : Nat → Addr, ds 0 = d1 ∧ ds 1 = d2 ∧ ds 2 = d3 := ⟨fun j => match j with | 0 => d1 | 1 => d2 | _ => d3, rfl, rfl, rfl⟩
  have lt3 : ∀ {Q : Nat → Prop}, Q 0 → Q 1 → Q 2 → ∀ j, j < 3 → Q j := fun h0 h1 h2 j hj => by
    match j, hj with
    | 0, _ => exact h0
    | 1, _ => exact h1
    | 2, _ => exact h2
  have inj : ∀ i, i < 3 → ∀ j, j < 3 → j ≠ i → ds j ≠ ds i := by
    refine lt3 (lt3 (fun h => absurd rfl h) ?_ ?_) (lt3 ?_ (fun h => absurd rfl h) ?_) (lt3 ?_ ?_ (fun h => absurd rfl h)) <;> intro _ <;> simp only [e0, e1, e2]
    · exact n12.symm
    · exact n13.symm
    · exact n12
    · exact n23.symm
    · exact n13
    · exact n23
  have hd0 : ∀ i, i < 3 → H (ds i) = none := by
    refine lt3 ?_ ?_ ?_ <;> simp only [e0, e1, e2]
    · exact kp_no s1 st1 nd1 st
    · exact kp_no s1 st1 (s2.free nd2) st
    · exact kp_no s1 st1 ((s2.trans s3).free nd3') st
  have sub : ∀ {m : Mp} {kvs : List (Str × List Str)}, (kvs.map (·.1)).Perm [a, b, c1] → (∀ kv ∈ kvs, m kv.1 = kv.2) → (∀ kv ∈ kvs, kv.1 ∈ kv.2 ∧ (∀ o ∈ kv.2, o ∈ xs) ∧ kv.2.Nodup ∧ kv.2.length ≤ 5) → GMk xs [a, b, c1] m := fun ek h g => (GMk.of h g).perm ek
  have p2 : [b, a, c1].Perm [a, b, c1] := List.Perm.swap a b [c1]
  have p3 : [c1, a, b].Perm [a, b, c1] := (List.Perm.swap a c1 [b]).trans (.cons a (List.Perm.swap b c1 []))
  have gm1 : GMk xs [a, b, c1] m1 := sub (.refl _) hm1 fun kv hk => by
    simp only [List.mem_cons, List.not_mem_nil, or_false] at hk
    rcases hk with rfl | rfl | rfl
    · exact gk1 ia
    · exact gk2 nab ia ib (.inr rfl)
    · exact gk2 (Ne.symm nac) ic ia (.inl rfl)
  have gm2 : GMk xs [a, b, c1] m2 := sub (kvs := [(b, [b]), (a, [b, a]), (c1, [a, c1])]) p2 hm2 fun kv hk => by
    simp only [List.mem_cons, List.not_mem_nil, or_false] at hk
    rcases hk with rfl | rfl | rfl
    · exact gk1 ib
    · exact gk2 (Ne.symm nab) ib ia (.inr rfl)
    · exact gk2 nac ia ic (.inr rfl)
  have gm3 : GMk xs [a, b, c1] m3 := sub (kvs := [(c1, [c1]), (a, [a, c1]), (b, [b, c1])]) p3 hm3 fun kv hk => by
    simp only [List.mem_cons, List.not_mem_nil, or_false] at hk
    rcases hk with rfl | rfl | rfl
    · exact gk1 ic
    · exact gk2 nac ia ic (.inl rfl)
    · exact gk2 nbc ib ic (.inl rfl)
  have fin : ([a, b, c1] ++ xs.filter (abcF a b c1)).Perm xs := by
    have h1 := hz.filter (abcF a b c1)
    have h2 : (a :: b :: c1 :: rest).filter (abcF a b c1) = rest := by
      have e : a :: b :: c1 :: rest = [a, b, c1] ++ rest := rfl
      rw [e, List.filter_append]
      have h3 : [a, b, c1].filter (abcF a b c1) = [] := by
        rw [List.filter_eq_nil_iff]
        intro x hx
        unfold abcF
        rw [decide_eq_true hx]
        decide
      have h4 : rest.filter (abcF a b c1) = rest := by
        rw [List.filter_eq_self]
        intro x hx
        unfold abcF
        rw [decide_eq_false]
        · rfl
        · intro z
          rw [e, List.nodup_append] at ndz
          exact ndz.2.2 x z x hx rfl
      rw [h3, h4]
      rfl
    rw [h2] at h1
    exact (h1.symm.append_left _).trans hz
  refine ⟨_, rfl, l, rfl, ⟨_, SqL.of upd_same⟩, for_list (K := K) (a := l) (xs := [.ref d1, .ref d2, .ref d3]) (fun i σ H' => ∃ v6 v7 ms, σ = [some (.ref p), some (.ref ar), some (.str a), some (.str b), some (.str c1), some (.ref l), v6, v7] ∧ NInv xs [a, b, c1] p q l ds H H' (c + xs.length) (fun j => if j < i then xs else [a, b, c1]) ms)
    ⟨none, none, fun j => match j with | 0 => m1 | 1 => m2 | _ => m3, rfl, st1.mono s15, Same.trans s1 (same_hid s15), by rw [e0, e1, e2]; exact upd_same, lt3 ?_ ?_ ?_⟩ (fun i σ H' _ ⟨_, _, _, _, I⟩ => SqL.of (by have := I.l; rw [e0, e1, e2] at this; exact this)) ?_ ?_⟩
  · rw [e0]
    exact ⟨hP1.mono (same_hid ((s3.trans s4).trans s5)), gm1⟩
  · rw [e1]
    exact ⟨(hP2.perm p2).mono (same_hid (s4.trans s5)), gm2⟩
  · rw [e2]
    exact ⟨(hP3.perm p3).mono (same_hid s5), gm3⟩
  · rintro i y σ H5 hi ⟨v6, v7, ms, rfl, I⟩
    have hi3 : i < 3 := at_lt hi
    obtain rfl : y = .ref (ds i) := by
      revert hi
      refine lt3 (Q := fun i => [V.ref d1, V.ref d2, V.ref d3][i]? = some y → y = V.ref (ds i)) ?_ ?_ ?_ i hi3 <;> intro h <;> cases h <;> simp [e0, e1, e2]
    have hda := I.kp _ _ har
    refine ⟨_, rfl, ar, rfl, ⟨_, SqL.of (hid_le _ _ hda)⟩, for_list (K := K) (a := ar) (xs := xs.map V.str) (fun i' σ H' => ∃ v7 ms, σ = [some (.ref p), some (.ref ar), some (.str a), some (.str b), some (.str c1), some (.ref l), some (.ref (ds i)), v7] ∧ NInv xs [a, b, c1] p q l ds H H' (c + xs.length) (fun j => if j < i then xs else if j = i then [a, b, c1] ++ (xs.take i').filter (abcF a b c1) else [a, b, c1]) ms)
      ⟨v7, ms, rfl, I.st, I.kp, I.l, fun j hj => ?_⟩ (fun i σ H' _ ⟨_, _, _, I⟩ => SqL.of (hid_le _ _ (I.kp _ _ har))) ?_ ?_⟩
    · have := I.at_ j hj
      by_cases c1' : j < i
      · simp only [if_pos c1'] at this ⊢; exact this
      · simp only [if_neg c1'] at this ⊢
        by_cases c2 : j = i
        · simp only [if_pos c2, List.take_zero, List.filter_nil, List.append_nil]; exact this
        · simp only [if_neg c2]; exact this
    · rintro i' y σ H6 hi' ⟨v7, ms, rfl, I⟩
      obtain ⟨x, hx, rfl⟩ := map_at hi'
      have hxm := at_mem hx
      refine ⟨_, rfl, _, rfl, _, rfl, _, rfl, sz3, fun t nt => ?_⟩
      have sT := same_new (o := .tup [V.str a, V.str b, V.str c1]) nt
      refine ⟨t, _, rfl, .inr (SqT.of upd_same), rfl, rfl, _, rfl, ?_⟩
      have einv : inV (.str x) [V.str a, V.str b, V.str c1] = decide (x ∈ [a, b, c1]) := inV_str x [a, b, c1]
      have I2 := I.at_
      have hl6 : upd H6 t (.tup [V.str a, V.str b, V.str c1]) l = some (.lst [.ref (ds 0), .ref (ds 1), .ref (ds 2)]) := sT _ _ I.l
      have kp6 := Same.trans I.kp (same_hid sT)
      have st6 := I.st.mono sT
      by_cases cx : x ∈ [a, b, c1]
      · refine iteBF (by show (!inV (.str x) [V.str a, V.str b, V.str c1]) = false; rw [einv, decide_eq_true cx]; rfl) ?_
        refine ⟨_, ms, rfl, st6, kp6, hl6, fun j hj => ?_⟩
        have := I2 j hj
        rw [take_more hx, List.filter_append, List.filter_cons_of_neg (by unfold abcF; rw [decide_eq_true cx]; decide), List.filter_nil, List.append_nil]
        exact ⟨this.1.mono (same_hid sT), this.2⟩
      · refine iteB (by show (!inV (.str x) [V.str a, V.str b, V.str c1]) = true; rw [einv, decide_eq_false cx]; rfl) ?_
        refine ⟨_, rfl, _, rfl, sz2, fun bb nbb => ?_⟩
        have sB := same_new (o := .lst [V.str x, V.str c1]) nbb
        have st7 := st6.mono sB
        obtain ⟨nbp, nbq⟩ := st6.pn nbb
        have kp7 := Same.trans kp6 (same_hid sB)
        have hi7 := (I2 i hi3).1.mono (same_hid (sT.trans sB))
        simp only [if_neg (Nat.lt_irrefl i), if_pos] at hi7
        have nx : x ∉ [a, b, c1] ++ (xs.take i').filter (abcF a b c1) := fun z => by
          rcases List.mem_append.mp z with z | z
          · exact cx z
          · exact not_take nd hx (List.mem_filter.mp z).1
        obtain ⟨kvs, g1, g2, g3⟩ := mapP_add (b := bb) (us := [x, c1]) hi7 nx (hid_of (by simp [nbp, nbq]) upd_same)
        have hdi := hd0 i hi3
        obtain ⟨ndp, ndq⟩ := st.pn hdi
        have nld : l ≠ ds i := fun z => by
          have h1 := sB _ _ hl6
          rw [z, g1] at h1
          cases h1
        have hfl := List.length_filter_le (abcF a b c1) (xs.take i')
        rw [List.length_take] at hfl
        refine ⟨_, rfl, _, rfl, ds i, _, rfl, DPut.k (k := Sum.inr x) g1 (by rw [g2, List.length_append]; exact small1000 (by simp only [List.length_cons, List.length_nil]; omega)), ?_⟩
        refine ⟨_, fun j => if j = i then (fun y => if y = x then [x, c1] else ms i y) else ms j, rfl, st7.upd ndp ndq, kp_mut kp7 hdi, ?_, fun j hj => ?_⟩
        · show upd _ (ds i) _ l = _
          rw [upd_ne nld]
          exact sB _ _ hl6
        · by_cases ej : j = i
          · subst ej
            simp only [if_neg (Nat.lt_irrefl j), if_pos]
            have gmj := (I2 j hj).2
            simp only [if_neg (Nat.lt_irrefl j), if_pos] at gmj
            rw [take_more hx, List.filter_append, List.filter_cons_of_pos (by unfold abcF; rw [decide_eq_false cx]; rfl), List.filter_nil, ← List.append_assoc]
            have nxc : x ≠ c1 := fun z => cx (by rw [z]; simp)
            exact ⟨g3, gmj.put (gk2 nxc hxm ic (.inl rfl))⟩
          · simp only [if_neg ej]
            have := I2 j hj
            simp only [if_neg ej] at this
            have h9 := (this.1.mono (same_hid (sT.trans sB))).hide (inj i hi3 j hj ej) g1
            refine ⟨?_, this.2⟩
            refine MapP.mono (hid_sub (S := [p, q]) (T := [ds i, p, q]) fun b hb => List.mem_cons_of_mem _ hb) ?_
            rw [hid_in (by simp)]
            exact h9
    · rintro σ H6 ⟨v7, ms, rfl, I⟩
      refine ⟨_, _, ms, rfl, I.st, I.kp, I.l, fun j hj => ?_⟩
      have := I.at_ j hj
      by_cases c1' : j < i
      · simp only [if_pos c1'] at this
        rw [if_pos (by omega)]
        exact this
      · simp only [if_neg c1'] at this
        by_cases c2 : j = i
        · simp only [if_pos c2, List.length_map, List.take_length] at this
          rw [if_pos (by omega)]
          exact ⟨this.1.perm fin, this.2.perm fin⟩
        · simp only [if_neg c2] at this
          rw [if_neg (by omega)]
          exact this
  · rintro σ H5 ⟨v6, v7, ms, rfl, I⟩
    have g : ∀ j, j < 3 → MapP (hid [p, q] H5) xs (ds j) (ms j) ∧ GMk xs xs (ms j) := fun j hj => by
      have := I.at_ j hj
      rw [if_pos (by simpa using hj)] at this
      exact this
    refine ⟨_, rfl, k l [ms 0, ms 1, ms 2] _ H5 hl0 ⟨[ds 0, ds 1, ds 2], hid_of (by simp [nlp, nlq]) I.l, .cons (g 0 (by omega)).1 (.cons (g 1 (by omega)).1 (.cons (g 2 (by omega)).1 .nil))⟩ (GMk.all fun m hm => ?_) (by simp) (by simp) I.st (by omega) I.kp⟩
    simp only [List.mem_cons, List.not_mem_nil, or_false] at hm
    rcases hm with rfl | rfl | rfl
    · exact (g 0 (by omega)).2
    · exact (g 1 (by omega)).2
    · exact (g 2 (by omega)).2)
end
end K9

/-! ## L12 -/
set_option maxHeartbeats 2000000
namespace K9
open PySem PySem.Spec PyProof.Rows L2
section
variable {P : Program} {w : World} {K : PySem.W.Frag} {mg : Str → Option Value} {base : Heap}
theorem sc_l_m_stars : FnScope ["_law_stream", "_law_hands_here", "_law_found", "_law_star", "_law_hand", "_law_one", "_law_other"] ["_law_stream", "_law_hands_here"] (defScope s_l_m_stars) := ⟨rfl, rfl, rfl, by decide +kernel, rfl, by decide +kernel, by decide +kernel⟩
theorem ok_l_m_stars (T : Tx K mg) : Ok P w K mg base CX0 4 "_law_m_stars" ["_law_stream", "_law_hands_here"] (spSome fun _ => True) :=
  ok_of T d_l_m_stars (by unfold fn; simp) rfl rfl rfl rfl rfl rfl (by decide +kernel) sc_l_m_stars (fun _ _ _ _ _ _ us hl => match us, hl with | [_, _], _ => rfl) (fun vs H Q E ⟨_, _, _, _, _, h, _⟩ => by subst h; rfl) (fun f cdv A outer s H vs Q E hr h => by
  obtain ⟨p, q, c, a, xs, rfl, st, hc, ha, nd, h2, h4, so, _, k⟩ := h
  have hu := hu_of hr
  have ne : xs ≠ [] := fun e => by rw [e] at h2; cases h2
  refine ⟨_, PSs.nox (pss_cons (ps_set (i := 2) sc_l_m_stars.nd rfl (by first | exact Or.inl rfl | exact Or.inr rfl) (pe_lst pa_nil))
    (pss_cons (ps_for PassesOwn.never rfl (pi_listk K (pe_slice (sl_listk K) (pe_c (ok_l_mixed T) (hr.mono (by first | decide | omega)) pass0 (pa_cons (pv 0) (pa_cons (pv 1) pa_nil))) po_none (po_some (pe_op op_add pe_int (pe_c (ok_l_draw T) (hr.mono (by first | decide | omega)) pass0 (pa_cons (pv 0) (pa_cons pe_int pa_nil))))))) (pg_name (i := 3) sc_l_m_stars.nd rfl (by first | exact Or.inl rfl | exact Or.inr rfl))
      (pss_cons (ps_set (i := 5) sc_l_m_stars.nd rfl (by first | exact Or.inl rfl | exact Or.inr rfl) (pe_callTy (call_dictPk K rfl) (by rfl) (T.Z "dict") bt_dict (pa_cons (pe_lc (own := [("_law_hand", 4)])  rfl sc_l_m_stars.nd (pi_listk K (pv 1)) (blkOk_by (by kernel_rfl)) (fun _ _ _ _ _ => (pg_name (i := 4) sc_l_m_stars.nd rfl (by first | exact Or.inl rfl | exact Or.inr rfl))) (fun _ _ _ _ _ => pts_nil) (fun _ _ _ _ _ => (pe_tup (pa_cons (pv 4) (pa_cons (pe_c (ok_l_each_once T) (hr.mono (by first | decide | omega)) pass0 (pa_cons (pe_lst (pa_cons (pv 4) (pa_cons (pv 3) pa_nil))) pa_nil)) pa_nil))))) pa_nil)))
      (pss_cons (ps_par (i := 4) (j := 6) rfl sc_l_m_stars.nd rfl rfl (by decide) rfl rfl (pa_cons (pe_c (ok_l_pick T) (hr.mono (by first | decide | omega)) pass0 (pa_cons (pv 0) (pa_cons (pv 1) pa_nil))) (pa_cons (pe_c (ok_l_pick T) (hr.mono (by first | decide | omega)) pass0 (pa_cons (pv 0) (pa_cons (pv 1) pa_nil))) pa_nil)) (by rfl))
      (pss_cons (ps_if (PW.pt (pw_and (pt_cmpR op_eq (pe_c (ok_l_draw T) (hr.mono (by first | decide | omega)) pass0 (pa_cons (pv 0) (pa_cons pe_int pa_nil))) pe_int (nomark _)) (pw_and1 (pt_cmpR (op_notIn_seqk K) (pv 6) (pe_dget hu (pv 5) (pv 4) (fun _ _ => rfl)) (by rfl))))) (pss_one (ps_dput hu (pv 5) (pv 4) (pe_op op_cat (pe_dget hu (pv 5) (pv 4) (fun _ _ => rfl)) (pe_lst (pa_cons (pv 6) pa_nil))) rfl)) pss_nil)
      (pss_one (ps_expr (pe_bmk K PySem.F.plainAttrs_list PySem.F.slot_list_append PySem.F.type_list_append mt_append (pv 2) (pa_cons (pv 5) pa_nil))))))))
    (pss_one (ps_ret (pv 2))))), ?_⟩
  refine ⟨Nat.zero_le _, fun l nl => ?_⟩
  obtain ⟨nlp, nlq⟩ := st.pn nl
  have sl := same_new (o := .lst []) nl
  refine ⟨_, rfl, _, rfl, p, q, c, a, xs.map V.str, rfl, st.mono sl, by rw [List.length_map]; omega, same_hid sl _ _ ha, by rw [List.length_map]; omega, fun D ys H1 nD hp hD st1 s1 => ?_⟩
  obtain ⟨zs, hz, rfl⟩ := perm_str hp
  have hzl := hz.length_eq
  rw [List.length_map] at st1
  have s01 := Same.trans (same_hid sl) s1
  refine ⟨_, rfl, p, q, _, _, rfl, by omega, by omega, st1, by omega, fun dd H2 dd0 dd1 st2 s2 => ?_⟩
  obtain ⟨N, hN⟩ : ∃ N : Nat, (2 : Int) + dd = (N : Int) := ⟨(2 + dd).toNat, by omega⟩
  have hN3 : N ≤ 3 := by omega
  have hN2 : 2 ≤ N := by omega
  have s02 := Same.trans s01 s2
  have hl2 : H2 l = some (.lst []) := kp_at (Same.trans s1 s2) (by simp [nlp, nlq]) upd_same
  refine ⟨_, _, rfl, rfl, _, (show V.int (2 + dd) = V.int (N : Int) by rw [hN]), D, _, rfl, SqL.of (hid_le _ _ (s2 _ _ hD)), fun r nr => ?_⟩
  rw [cut_take]
  rw [← List.map_take]
  obtain ⟨us, hus⟩ : ∃ us, us = zs.take N := ⟨_, rfl⟩
  rw [← hus]
  have husx : ∀ x ∈ us, x ∈ xs := fun x hx => hz.mem_iff.mp (List.mem_of_mem_take (hus ▸ hx))
  have husl : us.length ≤ 3 ∧ 2 ≤ us.length := by rw [hus, List.length_take]; omega
  obtain ⟨nrp, nrq⟩ := st2.pn nr
  have sr := same_new (o := .lst (us.map V.str)) nr
  have hl0 : H l = none := nl
  have s03 := Same.trans s02 (same_hid sr)
  have hl3 := sr _ _ hl2
  have nrl : r ≠ l := (ne_of_none hl2 nr).symm
  refine ⟨r, rfl, ⟨_, SqL.of upd_same⟩, for_list (K := K) (a := r) (xs := us.map V.str) (fun i σ H' => ∃ c' v3 v4 v5 v6 ds ms, σ = [some (.ref p), some (.ref a), some (.ref l), v3, v4, v5, v6] ∧ Stm H' p q c' ∧ c' ≤ c + 5 + 3 * i ∧ Kp p q H H' ∧ Strs H' r us ∧ H' l = some (.lst (ds.map V.ref)) ∧ Paired (MapP (hid [l, p, q] H') xs) ds ms ∧ MG xs ms ∧ ms.length = i)
    ⟨_, none, none, none, none, [], [], rfl, st2.mono sr, by omega, s03, upd_same, hl3, .nil, .nil, rfl⟩ (fun i σ H' _ ⟨_, _, _, _, _, _, _, _, _, _, _, h, _⟩ => SqL.of h) ?_ ?_⟩
  · rintro i y σ H4 hi ⟨c', v3, v4, v5, v6, ds, ms, rfl, st4, hc4, s4, hr4, hl4, hp4, mg4, ml4⟩
    obtain ⟨star, hst, rfl⟩ := map_at hi
    have hi3 : i < 3 := by have := at_lt hst; omega
    have hsx : star ∈ xs := husx _ (at_mem hst)
    have ha4 := s4 _ _ ha
    obtain ⟨e1, e2⟩ := st4.tr
    refine ⟨_, rfl, a, rfl, ⟨_, SqL.of (hid_le _ _ ha4)⟩, ?_⟩
    refine dict_lc (walk_list (xs := xs.map V.str)) (by rw [List.length_map]) (by omega) [l, p, q] (fun b hb => ?_) (fun kk us => kk ∈ us ∧ (∀ o ∈ us, o ∈ xs) ∧ us.Nodup ∧ us.length ≤ 4) (fun H' s => SqL.of (s _ _ (hid_le _ _ ha4))) (fun _ _ _ _ y => y.1) ?_ ?_
    · simp only [List.mem_cons, List.not_mem_nil, or_false] at hb
      rcases hb with e | e | e
      · rw [e]; exact ⟨_, hl4⟩
      · rw [e]; exact e1
      · rw [e]; exact e2
    · intro i kk x H5 D5 hk s5 hy hex Kt Kf kt
      obtain rfl : V.str kk = x := by
        have := hy.2
        rw [map_get hk] at this
        exact Option.some.inj this
      refine ⟨rfl, tyes ?_⟩
      refine ⟨_, rfl, _, rfl, _, rfl, sz2, fun t1 nt1 => ?_⟩
      have sT := same_new (o := .lst [V.str kk, V.str star]) nt1
      refine ⟨t1, [kk, star], rfl, upd_same, by simp, fun b ys H6 nb s6 hb und ule umem => ⟨sz2, fun t nt => ?_⟩⟩
      have stt := same_new (o := .tup [.str kk, .ref b]) nt
      have hkx : kk ∈ xs := at_mem hk
      refine kt t b ys _ ((sT.trans s6).trans stt) upd_same (stt _ _ hb) (nin_of hex (sT.trans s6) nt) (nin_of hex sT nb) ⟨(umem kk).mpr (by simp), fun o ho => ?_, und, ?_⟩
      · have := (umem o).mp ho
        simp at this
        rcases this with e | e <;> rw [e] <;> assumption
      · have : ys.length ≤ 2 := ule
        omega
    intro D H5 ys nD5 s5 hD5 hDP
    obtain ⟨ps, ad, m1, rfl, f2, f3, f4⟩ := dict_fin nd hDP
    refine ⟨D, ps, _, rfl, SqL.of hD5, f2 _ hid_le, fun d1 nd1 => ?_⟩
    rw [f3]
    have s56 := same_new (o := .dK (mkv xs ad)) nd1
    have nd4 : H4 d1 = none := s5.free nd1
    have ndH : H d1 = none := kp_no s4 st4 nd4 st
    obtain ⟨ndp, ndq⟩ := st4.pn nd4
    have ndl : d1 ≠ l := (ne_of_none hl4 nd4).symm
    have hd6 : MapP (hid [l, p, q] (upd H5 d1 (.dK (mkv xs ad)))) xs d1 m1 := by
      refine ⟨xs, ad, .refl _, hid_of (by simp [ndl, ndp, ndq]) upd_same, fun y hy => ?_⟩
      have h1 := hid_at (f4 y hy).1
      exact hid_of (fun z => h1.1 (List.mem_cons_of_mem _ z)) (s56 _ _ h1.2)
    have s46 := s5.trans s56
    generalize hH6 : upd H5 d1 (.dK (mkv xs ad)) = H6 at hd6 s56 s46
    have gm1 : GMk xs xs m1 := ⟨fun y hy => (f4 y hy).2.1, fun y hy => (f4 y hy).2.2.1, fun y hy => (f4 y hy).2.2.2.1, fun y hy => by have := (f4 y hy).2.2.2.2; omega⟩
    have st6 := st4.mono s46
    have ha6 := same_hid s46 _ _ ha4
    refine ⟨_, rfl, _, rfl, p, q, c', a, xs.map V.str, rfl, st6, by omega, ha6, by simpa using ne, by rw [List.length_map]; omega, fun i1 x1 H7 hx1 st7 s7 => ?_⟩
    obtain ⟨hand, hhand, rfl⟩ := map_at hx1
    refine ⟨_, rfl, _, rfl, p, q, c' + 1, a, xs.map V.str, rfl, st7, by omega, s7 _ _ ha6, by simpa using ne, by rw [List.length_map]; omega, fun i2 x2 H8 hx2 st8 s8 => ?_⟩
    obtain ⟨oth, hoth, rfl⟩ := map_at hx2
    refine ⟨_, _, rfl, ?_⟩
    refine ⟨_, rfl, p, q, _, c' + 1 + 1, rfl, by omega, by omega, st8, by omega, fun ff H9 ff0 ff1 st9 s9 => ?_⟩
    have hhx := at_mem hhand
    have hox := at_mem hoth
    have sub3 : ∀ b ∈ [p, q], b ∈ [l, p, q] := fun b hb => List.mem_cons_of_mem _ hb
    have s69 : Kp p q H6 H9 := Same.trans (Same.trans s7 s8) s9
    have hd9 : MapP (hid [l, p, q] H9) xs d1 m1 := hd6.mono (hid_more sub3 s69)
    have fin : ∀ {H10 : Hp} {m' : Mp} {σ : L2.St}, σ = [some (.ref p), some (.ref a), some (.ref l), some (.str star), some (.str hand), some (.ref d1), some (.str oth)] → Stm H10 p q (c' + 1 + 1 + 1) → Same (hid [d1, p, q] H9) (hid [d1, p, q] H10) → MapP (hid [l, p, q] H10) xs d1 m' → GMk xs xs m' →
        H10 l = some (.lst (ds.map V.ref)) ∧ ∃ c' v3 v4 v5 v6 ds' ms, σ = [some (.ref p), some (.ref a), some (.ref l), v3, v4, v5, v6] ∧ Stm (upd H10 l (.lst (ds.map V.ref ++ [V.ref d1]))) p q c' ∧ c' ≤ c + 5 + 3 * (i + 1) ∧ Kp p q H (upd H10 l (.lst (ds.map V.ref ++ [V.ref d1]))) ∧ Strs (upd H10 l (.lst (ds.map V.ref ++ [V.ref d1]))) r us ∧ upd H10 l (.lst (ds.map V.ref ++ [V.ref d1])) l = some (.lst (ds'.map V.ref)) ∧ Paired (MapP (hid [l, p, q] (upd H10 l (.lst (ds.map V.ref ++ [V.ref d1])))) xs) ds' ms ∧ MG xs ms ∧ ms.length = i + 1 := by
      intro H10 m' σ eσ st10 s10 hd10 gm'
      have sub4 : ∀ b ∈ [p, q], b ∈ [d1, p, q] := fun b hb => List.mem_cons_of_mem _ hb
      have sA : Same (hid [d1, p, q] H4) (hid [d1, p, q] H10) := Same.trans (Same.trans (same_hid s46) (hid_more sub4 s69)) s10
      have hl10 : H10 l = some (.lst (ds.map V.ref)) := kp_at sA (by simp [ndl.symm, nlp, nlq]) hl4
      have nrd : r ≠ d1 := ne_of_none hr4 nd4
      have hr10 : Strs H10 r us := kp_at sA (by simp [nrd, nrp, nrq]) hr4
      have sub5 : ∀ b ∈ [d1, p, q], b ∈ [d1, l, p, q] := fun b hb => by simp at hb ⊢; rcases hb with e | e | e <;> simp [e]
      have sB : Same (hid [d1, l, p, q] H4) (hid [d1, l, p, q] H10) := hid_more sub5 sA
      have sK : Kp p q H H10 := fun b o e => by
        have h1 := hid_at e
        have h2 := hid_at (s4 _ _ e)
        have h3 := hid_at (sA b o (hid_of (fun z => by
          rcases List.mem_cons.mp z with z | z
          · exact ne_of_none h2.2 nd4 z
          · exact h1.1 z) h2.2))
        exact hid_of h1.1 h3.2
      refine ⟨hl10, _, _, _, _, _, ds ++ [d1], ms ++ [m'], eσ, st10.upd nlp nlq, by omega, kp_mut sK hl0, ?_, ?_, ?_, mg4.snoc gm'.gm gm'.len, by rw [List.length_append, ml4]; rfl⟩
      · show upd H10 l _ r = _
        rw [upd_ne nrl]
        exact hr10
      · rw [upd_same, List.map_append]
        rfl
      · rw [hid_in (by simp)]
        exact Paired.snoc (L2.Paired.mapP hp4 fun _ _ h => ((h.new nd4).mono sB).mono (hid_sub fun b hb => List.mem_cons_of_mem _ hb)) hd10
    have hsz : (ds.map V.ref).length < sizeLine := by
      have := hp4.length
      rw [List.length_map]
      exact small1000 (by omega)
    refine ⟨rfl, _, rfl, ?_⟩
    by_cases ef : ff = 0
    · refine iteB (decide_eq_true (show V.int ff = V.int 0 by rw [ef])) ?_
      have hd9' := hd9
      obtain ⟨ks4, ad4, hp9, hdk9, hak9⟩ := hd9'
      have hak := (hid_at (hak9 hand hhx)).2
      have hkk := hp9.mem_iff.mpr hhx
      refine ⟨_, rfl, _, rfl, _, rfl, d1, _, rfl, (valV_mkv hkk ▸ DGet.k (k := Sum.inr hand) (hid_at hdk9).2), ad4 hand, _, rfl, .inl (SqL.of hak), rfl, flat_strs _, _, rfl, ?_⟩
      rw [inV_str]
      by_cases co : oth ∈ m1 hand
      · refine iteBF (by show (!decide (oth ∈ m1 hand)) = false; rw [decide_eq_true co]; rfl) ?_
        obtain ⟨hl10, nx⟩ := fin rfl st9 (.refl _) hd9 gm1
        exact ⟨_, rfl, .inl ⟨rfl, _, SqL.of hl10⟩, _, rfl, l, _, _, rfl, rfl, hl10, hsz, nx⟩
      · refine iteB (by show (!decide (oth ∈ m1 hand)) = true; rw [decide_eq_false co]; rfl) ?_
        have hln := (f4 hand hhx).2.2.2.2
        refine ⟨_, rfl, _, rfl, d1, _, rfl, (valV_mkv hkk ▸ DGet.k (k := Sum.inr hand) (hid_at hdk9).2), _, rfl, sz1, fun b nb => ?_⟩
        have sb := same_new (o := .lst [V.str oth]) nb
        refine ⟨ad4 hand, b, _, _, rfl, rfl, sb _ _ hak, upd_same, by rw [List.length_map]; exact Nat.le_of_lt (small1000 (by simp only [List.length_cons, List.length_nil]; omega)), fun cc ncc => ?_⟩
        have sc := same_new (o := .lst ((m1 hand).map V.str ++ [V.str oth])) ncc
        have s9b := sb.trans sc
        have hl9 : H9 l = some (.lst (ds.map V.ref)) := kp_at s69 (by simp [nlp, nlq]) (s46 _ _ hl4)
        obtain ⟨ncp, ncq⟩ := (st9.mono sb).pn ncc
        have ncl : cc ≠ l := (ne_of_none (sb _ _ hl9) ncc).symm
        obtain ⟨kvs, g1, g2, g3⟩ := mapP_put (b := cc) (us := m1 hand ++ [oth]) (hd9.mono (same_hid s9b)) hhx (hid_of (by simp [ncp, ncq, ncl]) (by rw [upd_same, List.map_append]; rfl))
        refine ⟨_, rfl, _, rfl, d1, _, rfl, DPut.k (k := Sum.inr hand) g1 (by rw [g2]; exact small1000 (by omega)), ?_⟩
        obtain ⟨hl10, nx⟩ := fin rfl ((st9.mono s9b).upd ndp ndq) (by rw [hid_in (by simp)]; exact same_hid s9b) g3 (by
          refine ⟨fun y hy => ?_, fun y hy o ho => ?_, fun y hy => ?_, fun y hy => ?_⟩
          all_goals by_cases ey : y = hand
          · simp only [if_pos ey]; rw [ey]; exact List.mem_append_left _ (gm1.self hand hhx)
          · simp only [if_neg ey]; exact gm1.self y hy
          · simp only [if_pos ey] at ho
            rcases List.mem_append.mp ho with z | z
            · exact gm1.sub hand hhx o z
            · rw [List.mem_singleton.mp z]; exact hox
          · simp only [if_neg ey] at ho; exact gm1.sub y hy o ho
          · simp only [if_pos ey]
            rw [List.nodup_append]
            exact ⟨gm1.nd hand hhx, by simp, fun z hz z' hz' e => co (by rw [← List.mem_singleton.mp hz', ← e]; exact hz)⟩
          · simp only [if_neg ey]; exact gm1.nd y hy
          · simp only [if_pos ey]
            rw [List.length_append]
            show (m1 hand).length + 1 ≤ 5
            omega
          · simp only [if_neg ey]; exact gm1.len y hy)
        exact ⟨_, rfl, .inl ⟨rfl, _, SqL.of hl10⟩, _, rfl, l, _, _, rfl, rfl, hl10, hsz, nx⟩
    · refine iteBF (decide_eq_false (show ¬ V.int ff = V.int 0 from fun e => ef (V.int.inj e))) (iteF ?_)
      obtain ⟨hl10, nx⟩ := fin rfl st9 (.refl _) hd9 gm1
      exact ⟨_, rfl, .inl ⟨rfl, _, SqL.of hl10⟩, _, rfl, l, _, _, rfl, rfl, hl10, hsz, nx⟩
  · rintro σ H4 ⟨c', v3, v4, v5, v6, ds, ms, rfl, st4, hc4, s4, hr4, hl4, hp4, mg4, ml4⟩
    rw [List.length_map] at ml4 hc4
    refine ⟨_, rfl, k l ms c' H4 hl0 ⟨ds, hid_of (by simp [nlp, nlq]) hl4, L2.Paired.mapP hp4 fun _ _ h => h.mono (hid_sub fun b hb => List.mem_cons_of_mem _ hb)⟩ mg4 (fun e => ?_) (by omega) st4 (by omega) s4⟩
    rw [e] at ml4
    have h0 : ([] : List Mp).length = 0 := rfl
    omega)
end
end K9

/-! ## L13 -/
set_option maxHeartbeats 2000000
namespace K9
open PySem PySem.Spec PyProof.Rows L2
theorem seq_mid {t u : TS} {D : Ends} {σ : L2.St} {H : Hp} (M : L2.St → Hp → Prop) (hu : ∀ σ H, M σ H → u D σ H) (ht : ∀ N : L2.St → Hp → Prop, (∀ σ H, M σ H → N σ H) → t { D with nx := N } σ H) : tSeq t u D σ H := ht (u D) hu
theorem paired_perm {α β : Type} {R : α → β → Prop} {l1 l1' : List α} (p : l1.Perm l1') : ∀ {l2 : List β}, Paired R l1 l2 → ∃ l2', l2.Perm l2' ∧ Paired R l1' l2' := by
  induction p with
  | nil => intro l2 h; exact ⟨l2, .refl _, h⟩
  | cons x _ ih =>
    intro l2 h
    cases h with
    | cons r t =>
      obtain ⟨l2', h1, h2⟩ := ih t
      exact ⟨_ :: l2', .cons _ h1, .cons r h2⟩
  | swap x y l =>
    intro l2 h
    cases h with
    | cons r t =>
      cases t with
      | cons r2 t2 => exact ⟨_, .swap _ _ _, .cons r2 (.cons r t2)⟩
  | trans _ _ ih1 ih2 =>
    intro l2 h
    obtain ⟨l3, h1, h2⟩ := ih1 h
    obtain ⟨l4, h3, h4⟩ := ih2 h2
    exact ⟨l4, h1.trans h3, h4⟩
theorem perm_ref {ys : List V} {l : List Addr} (hp : ys.Perm (l.map V.ref)) : ∃ zs : List Addr, zs.Perm l ∧ ys = zs.map V.ref := by
  have hall : ∀ y ∈ ys, ∃ z ∈ l, y = V.ref z := fun y hy => by
    obtain ⟨z, hz, e⟩ := List.mem_map.mp (hp.mem_iff.mp hy)
    exact ⟨z, hz, e.symm⟩
  refine ⟨ys.map fun v => match v with | .ref z => z | _ => 0, ?_, ?_⟩
  · have := hp.map (fun v => match v with | .ref z => z | _ => 0)
    rw [List.map_map] at this
    refine this.trans (.of_eq ?_)
    exact List.map_id _
  · rw [List.map_map]
    refine (List.map_id ys).symm.trans (List.map_congr_left fun y hy => ?_)
    obtain ⟨z, _, rfl⟩ := hall y hy
    rfl
theorem paired_append {α β : Type} {R : α → β → Prop} : ∀ {l1 l2 : List α} {r1 r2 : List β}, Paired R l1 r1 → Paired R l2 r2 → Paired R (l1 ++ l2) (r1 ++ r2)
  | _, _, _, _, .nil, h => h
  | _, _, _, _, .cons r t, h => .cons r (paired_append t h)
theorem MG.sub {xs : List Str} {ms ms' : List Mp} (h : MG xs ms) (s : ∀ m ∈ ms', m ∈ ms) : MG xs ms' := ⟨fun m hm => h.gm m (s m hm), fun m hm => h.len m (s m hm)⟩
section
variable {P : Program} {w : World} {K : PySem.W.Frag} {mg : Str → Option Value} {base : Heap}
theorem sc_l_m_maps : FnScope ["_law_stream", "_law_hands_here", "_law_most", "_law_way", "_law_some", "_law_found", "_law_one", "_law_other"] ["_law_stream", "_law_hands_here", "_law_most"] (defScope s_l_m_maps) := ⟨rfl, rfl, rfl, by decide +kernel, rfl, by decide +kernel, by decide +kernel⟩
def spMMaps : Sp := fun vs H Q _ => ∃ p q c a xs n, vs = [.ref p, .ref a, .int ((n : Nat) : Int)] ∧ Stm H p q c ∧ c + 2000 ≤ 1000000000 ∧ 1 ≤ n ∧ n ≤ 5 ∧ Strs (hid [p, q] H) a xs ∧ xs.Nodup ∧ 2 ≤ xs.length ∧ xs.length ≤ 4 ∧ SO xs ∧
  ∀ l ms c' H', H l = none → MapsP (hid [p, q] H') xs l ms → MG xs ms → ms.Pairwise (fun m m' => ¬ Eqm xs m m') → ms ≠ [] → ms.length ≤ n → Stm H' p q c' → c' ≤ c + 1000 → Kp p q H H' → Q (.ref l) H'
theorem ok_l_m_maps (T : Tx K mg) : Ok P w K mg base CX0 5 "_law_m_maps" ["_law_stream", "_law_hands_here", "_law_most"] spMMaps :=
  ok_of T d_l_m_maps (by unfold fn; simp) rfl rfl rfl rfl rfl rfl (by decide +kernel) sc_l_m_maps (fun _ _ _ _ _ _ us hl => match us, hl with | [_, _, _], _ => rfl) (fun vs H Q E ⟨_, _, _, _, _, _, h, _⟩ => by subst h; rfl) (fun f cdv A outer s H vs Q E hr h => by
  obtain ⟨p, q, c, a, xs, n, rfl, st, hc, hn1, hn5, ha, nd, h2, h4, so, k⟩ := h
  have ne : xs ≠ [] := fun e => by rw [e] at h2; cases h2
  refine ⟨_, PSs.nox (pss_cons (ps_set (i := 3) sc_l_m_maps.nd rfl (by first | exact Or.inl rfl | exact Or.inr rfl) (pe_c (ok_l_draw T) (hr.mono (by first | decide | omega)) pass0 (pa_cons (pv 0) (pa_cons pe_int pa_nil))))
    (pss_cons (ps_if (PW.pt (pw_and (pt_cmpR op_eq (pv 3) pe_int (nomark _)) (pw_and (pt_cmpR op_eq (pe_callB (call_len_seqk K) (by rfl) (T.Z "len") bt_len (pa_cons (pv 1) pa_nil)) pe_int (nomark _)) (pw_and1 (pt_cmpR op_eq (pe_c (ok_l_draw T) (hr.mono (by first | decide | omega)) pass0 (pa_cons (pv 0) (pa_cons pe_int pa_nil))) pe_int (nomark _)))))) (pss_one (ps_set (i := 4) sc_l_m_maps.nd rfl (by first | exact Or.inl rfl | exact Or.inr rfl) (pe_c (ok_l_m_deep T) (hr.mono (by first | decide | omega)) pass0 (pa_cons (pv 0) (pa_cons (pv 1) pa_nil))))) (pss_one (ps_if (PW.pt (pw_and (pt_cmpR op_eq (pv 3) pe_int (nomark _)) (pw_and1 (pt_cmpR op_gt (pe_callB (call_len_seqk K) (by rfl) (T.Z "len") bt_len (pa_cons (pv 1) pa_nil)) pe_int (nomark _))))) (pss_one (ps_set (i := 4) sc_l_m_maps.nd rfl (by first | exact Or.inl rfl | exact Or.inr rfl) (pe_op op_cat (pe_c (ok_l_m_nested T) (hr.mono (by first | decide | omega)) pass0 (pa_cons (pv 0) (pa_cons (pv 1) pa_nil))) (pe_c (ok_l_maps T) (hr.mono (by first | decide | omega)) pass0 (pa_cons (pv 0) (pa_cons (pv 1) (pa_cons (pe_c (ok_l_draw T) (hr.mono (by first | decide | omega)) pass0 (pa_cons (pv 0) (pa_cons pe_int pa_nil))) pa_nil))))))) (pss_one (ps_if (pt_cmpR op_eq (pv 3) pe_int (nomark _)) (pss_one (ps_set (i := 4) sc_l_m_maps.nd rfl (by first | exact Or.inl rfl | exact Or.inr rfl) (pe_c (ok_l_m_stars T) (hr.mono (by first | decide | omega)) pass0 (pa_cons (pv 0) (pa_cons (pv 1) pa_nil))))) (pss_one (ps_if (pt_cmpR op_eq (pv 3) pe_int (nomark _)) (pss_one (ps_set (i := 4) sc_l_m_maps.nd rfl (by first | exact Or.inl rfl | exact Or.inr rfl) (pe_c (ok_l_m_lossy T) (hr.mono (by first | decide | omega)) pass0 (pa_cons (pv 0) (pa_cons (pv 1) pa_nil))))) (pss_one (ps_set (i := 4) sc_l_m_maps.nd rfl (by first | exact Or.inl rfl | exact Or.inr rfl) (pe_c (ok_l_maps T) (hr.mono (by first | decide | omega)) pass0 (pa_cons (pv 0) (pa_cons (pv 1) (pa_cons (pe_op op_add pe_int (pe_c (ok_l_draw T) (hr.mono (by first | decide | omega)) pass0 (pa_cons (pv 0) (pa_cons (pv 2) pa_nil)))) pa_nil)))))))))))))
    (pss_cons (ps_set (i := 5) sc_l_m_maps.nd rfl (by first | exact Or.inl rfl | exact Or.inr rfl) (pe_lst pa_nil))
    (pss_cons (ps_for PassesOwn.never rfl (pi_listk K (pv 4)) (pg_name (i := 6) sc_l_m_maps.nd rfl (by first | exact Or.inl rfl | exact Or.inr rfl))
      (pss_one (ps_if (pt_cmpR (op_notInM hr.units70) (pe_c (ok_l_plain_map T) (hr.mono (by first | decide | omega)) pass0 (pa_cons (pv 6) pa_nil)) (pe_lc (own := [("_law_other", 7)])  rfl sc_l_m_maps.nd (pi_listk K (pv 5)) (blkOk_by (by kernel_rfl)) (fun _ _ _ _ _ => (pg_name (i := 7) sc_l_m_maps.nd rfl (by first | exact Or.inl rfl | exact Or.inr rfl))) (fun _ _ _ _ _ => pts_nil) (fun _ _ _ _ _ => (pe_c (ok_l_plain_map T) (hr.mono (by first | decide | omega)) pass0 (pa_cons (pv 7) pa_nil)))) (by rfl)) (pss_one (ps_expr (pe_bmk K PySem.F.plainAttrs_list PySem.F.slot_list_append PySem.F.type_list_append mt_append (pv 5) (pa_cons (pv 6) pa_nil)))) pss_nil)))
    (pss_one (ps_ret (pe_c (ok_l_mixed T) (hr.mono (by first | decide | omega)) pass0 (pa_cons (pv 0) (pa_cons (pe_slice (sl_listk K) (pv 5) po_none (po_some (pv 2))) pa_nil))))))))), ?_⟩
  refine ⟨_, rfl, p, q, _, c, rfl, by omega, by omega, st, by omega, fun way H1 w0 w1 st1 s1 => ?_⟩
  dsimp only [gName]
  refine seq_mid (fun σ H' => ∃ l ms c', σ = [some (.ref p), some (.ref a), some (.int (n : Int)), some (.int way), some (.ref l), none, none, none] ∧ MapsP (hid [p, q] H') xs l ms ∧ MG xs ms ∧ ms ≠ [] ∧ ms.length ≤ 12 ∧ Stm H' p q c' ∧ c' ≤ c + 900 ∧ Kp p q H H') ?_ ?_
  · rintro σ H2 ⟨l, ms, c', rfl, hM, mg2, ne2, ml2, st2, hc2, s2⟩
    obtain ⟨ds, hl2, hds⟩ := hM
    have hl2' := hid_le _ _ hl2
    refine ⟨Nat.zero_le _, fun ff nff => ?_⟩
    obtain ⟨nfp, nfq⟩ := st2.pn nff
    have hdl := hds.length
    refine ⟨_, rfl, l, rfl, ⟨_, SqL.of (same_new nff _ _ hl2')⟩, for_list (K := K) (a := l) (xs := ds.map V.ref) (fun i σ H' => ∃ v6 es ns, σ = [some (.ref p), some (.ref a), some (.int (n : Int)), some (.int way), some (.ref l), some (.ref ff), v6, none] ∧ Same H2 H' ∧ H' ff = some (.lst (es.map V.ref)) ∧ Paired (MapP (hid [p, q] H2) xs) es ns ∧ (∀ m ∈ ns, m ∈ ms) ∧ ns.Pairwise (fun m m' => ¬ Eqm xs m m') ∧ ns.length ≤ i ∧ (0 < i → ns ≠ []))
      ⟨none, [], [], rfl, same_new nff, upd_same, .nil, fun m h => (by cases h), .nil, Nat.le_refl _, fun h => absurd h (Nat.lt_irrefl _)⟩ (fun i σ H' _ ⟨_, _, _, _, s, _⟩ => SqL.of (s _ _ hl2')) ?_ ?_⟩
    · rintro i y σ H3 hi ⟨v6, es, ns, rfl, s3, hf3, hp3, sub3, pw3, nl3, nn3⟩
      obtain ⟨d, hd, rfl⟩ := map_at hi
      obtain ⟨m, hm, hP⟩ := paired_at hds hd
      have hmm := at_mem hm
      have hi12 := at_lt hm
      have all : ∀ m' ∈ m :: ns, m' ∈ ms := fun m' h => by
        rcases List.mem_cons.mp h with e | e
        · rw [e]; exact hmm
        · exact sub3 m' e
      have el := hp3.length
      refine plain_test (i0 := 7) (j0 := 5) (j1 := 6) nd (by omega) so (by omega) (fun m' hm' y hy => by have := mg2.len m' (all m' hm') y hy; omega) (fun m' hm' => (mg2.gm m' (all m' hm')).sub) ((hP.mono hid_le).mono s3) (⟨es, hf3, L2.Paired.mapP hp3 fun _ _ h => (h.mono hid_le).mono s3⟩) ?_ ?_ ?_ fun b H4 s4 hb => ?_
      · rfl
      · rfl
      · exact fun _ => rfl
      have hf4 := s4 _ _ hf3
      cases b with
      | true =>
        have hb2 := hb.mp rfl
        refine iteT ⟨_, rfl, .inl ⟨rfl, _, SqL.of hf4⟩, _, rfl, ff, _, _, rfl, rfl, hf4, by rw [List.length_map]; exact small1000 (by omega), ?_⟩
        refine ⟨_, es ++ [d], ns ++ [m], rfl, same_mut (s3.trans s4) nff, ?_, Paired.snoc hp3 hP, fun m' h => ?_, pw_snoc pw3 hb2, by rw [List.length_append]; exact Nat.add_le_add_right nl3 1, fun _ => by simp⟩
        · rw [upd_same, List.map_append]
          rfl
        · rcases List.mem_append.mp h with e | e
          · exact sub3 m' e
          · rw [List.mem_singleton.mp e]; exact hmm
      | false =>
        refine iteF ⟨_, es, ns, rfl, s3.trans s4, hf4, hp3, sub3, pw3, by omega, fun _ e => ?_⟩
        subst e
        have := hb.mpr (fun m' h => (by cases h))
        cases this
    · rintro σ H3 ⟨v6, es, ns, rfl, s3, hf3, hp3, sub3, pw3, nl3, nn3⟩
      rw [List.length_map, hdl] at nl3 nn3
      have nns := nn3 (List.length_pos_iff.mpr ne2)
      have el := hp3.length
      refine ⟨_, rfl, _, rfl, _, rfl, _, rfl, ff, _, rfl, SqL.of hf3, fun r nr => ?_⟩
      rw [cut_take, ← List.map_take]
      have sr := same_new (o := .lst ((es.take n).map V.ref)) nr
      have s2r := s3.trans sr
      obtain ⟨nrp, nrq⟩ := (st2.mono s3).pn nr
      refine ⟨p, q, c', r, (es.take n).map V.ref, rfl, st2.mono s2r, by rw [List.length_map, List.length_take]; omega, hid_of (by simp [nrp, nrq]) upd_same, by rw [List.length_map, List.length_take]; omega, fun D ys H5 nD hp hD st5 s5 => ?_⟩
      obtain ⟨gs, hg, rfl⟩ := perm_ref hp
      obtain ⟨ns2, hn2, hP2⟩ := paired_perm hg.symm (paired_take n hp3)
      have sE : Kp p q H2 H5 := Same.trans (same_hid s2r) s5
      have hsub : ∀ m ∈ ns2, m ∈ ns := fun m hm => List.mem_of_mem_take (hn2.mem_iff.mpr hm)
      have hl2n := hn2.length_eq
      rw [List.length_take] at hl2n
      have npos := List.length_pos_iff.mpr nns
      rw [List.length_map, List.length_take] at st5
      refine k D ns2 _ H5 (kp_no s2 st2 (s2r.free nD) st) ⟨gs, hD, L2.Paired.mapP hP2 fun _ _ h => h.mono sE⟩ (mg2.sub fun m hm => sub3 m (hsub m hm)) ?_ (fun e => ?_) (by omega) st5 (by omega) (Same.trans s2 sE)
      · exact (List.Perm.pairwise_iff (fun {x y} h e => h e.symm') hn2).mp (pw3.sublist (List.take_sublist _ _))
      · rw [e] at hl2n
        have h0 : ([] : List Mp).length = 0 := rfl
        omega
  · intro N hN
    have ha1 := s1 _ _ ha
    -- what a maker gives
    have got : ∀ {H2 : Hp} {c2 : Nat}, c2 ≤ c + 490 → Kp p q H H2 → ∀ l ms c' H', MapsP (hid [p, q] H') xs l ms → MG xs ms → ms ≠ [] → ms.length ≤ 12 → Stm H' p q c' → c' ≤ c2 + 410 → Kp p q H2 H' → N [some (.ref p), some (.ref a), some (.int (n : Int)), some (.int way), some (.ref l), none, none, none] H' := by
      intro H2 c2 hc2 s2 l ms c' H' g1 g2 g3 g4 g5 g6 g7
      exact hN _ _ ⟨l, ms, c', rfl, g1, g2, g3, g4, g5, by omega, Same.trans s2 g7⟩
    have nestR : ∀ {H2 : Hp} {c2 : Nat} {R : VK}, Stm H2 p q c2 → c2 ≤ c + 2 → Kp p q H H2 → 3 ≤ xs.length → tAsg (tOp rCat (tCall (spSome fun xs => 3 ≤ xs.length) [] E0 (tCons (tVar 0) (tCons (tVar 1) tNil))) (tCall spMapsD [] E0 (tCons (tVar 0) (tCons (tVar 1) (tCons (tCall spDraw [] E0 (tCons (tVar 0) (tCons (tC (V.int 2)) tNil))) tNil))))) (gName 4) { nx := N, rt := R } [some (.ref p), some (.ref a), some (.int (n : Int)), some (.int way), none, none, none, none] H2 := by
      intro H2 c2 R st2 hc2 s2 h3
      have ha2 := s2 _ _ ha
      refine ⟨_, rfl, _, rfl, p, q, c2, a, xs, rfl, st2, by omega, ha2, nd, h2, h4, so, h3, fun l1 ms1 c3 H3 nl1 g1 g2 g3 g4 g5 g6 g7 => ?_⟩
      refine ⟨_, rfl, _, rfl, _, rfl, p, q, _, c3, rfl, by omega, by omega, g5, by omega, fun dd H4 dd0 dd1 st4 s4 => ?_⟩
      obtain ⟨M, hM⟩ : ∃ M : Nat, dd = (M : Int) := ⟨dd.toNat, by omega⟩
      refine ⟨p, q, c3 + 1, a, xs, M, (show [V.ref p, V.ref a, V.int dd] = [V.ref p, V.ref a, V.int (M : Int)] by rw [hM]), st4, by omega, by omega, s4 _ _ (g7 _ _ ha2), nd, ne, h4, so, fun l2 ms2 c5 H5 nl2 k1 k2 k3 k4 k5 k6 k7 k8 => ?_⟩
      obtain ⟨ds1, e1, e2⟩ := g1.mono (Same.trans s4 k8)
      obtain ⟨ds2, e3, e4⟩ := k1
      have el1 := e2.length
      have el2 := e4.length
      refine ⟨l1, l2, _, _, rfl, rfl, hid_le _ _ e1, hid_le _ _ e3, by rw [List.length_map, List.length_map]; exact sz1000 (by omega), fun l nl => ?_⟩
      have sl := same_new (o := .lst (ds1.map V.ref ++ ds2.map V.ref)) nl
      obtain ⟨nlp, nlq⟩ := k6.pn nl
      refine got (c2 := c2) (by omega) s2 l (ms1 ++ ms2) c5 _ ⟨ds1 ++ ds2, hid_of (by simp [nlp, nlq]) (by rw [upd_same, List.map_append]), paired_append (L2.Paired.mapP e2 fun _ _ h => h.mono (same_hid sl)) (L2.Paired.mapP e4 fun _ _ h => h.mono (same_hid sl))⟩ ⟨fun m hm => ?_, fun m hm => ?_⟩ (by simp [g3]) (by rw [List.length_append]; omega) (k6.mono sl) (by omega) (Same.trans (Same.trans (Same.trans g7 s4) k8) (same_hid sl))
      · rcases List.mem_append.mp hm with z | z
        · exact g2.gm m z
        · exact k2.gm m z
      · rcases List.mem_append.mp hm with z | z
        · exact g2.len m z
        · exact k2.len m z
    have mapsR : ∀ {R : VK}, tAsg (tCall spMapsD [] E0 (tCons (tVar 0) (tCons (tVar 1) (tCons (tOp (rI0 fun i j => V.int (i + j)) (tC (V.int 1)) (tCall spDraw [] E0 (tCons (tVar 0) (tCons (tVar 2) tNil)))) tNil)))) (gName 4) { nx := N, rt := R } [some (.ref p), some (.ref a), some (.int (n : Int)), some (.int way), none, none, none, none] H1 := by
      intro R
      refine ⟨_, rfl, _, rfl, _, rfl, _, rfl, p, q, _, c + 1, rfl, by omega, by omega, st1, by omega, fun dd H2 dd0 dd1 st2 s2 => ?_⟩
      obtain ⟨M, hM⟩ : ∃ M : Nat, (1 : Int) + dd = (M : Int) := ⟨(1 + dd).toNat, by omega⟩
      refine ⟨_, _, rfl, rfl, ?_⟩
      refine ⟨p, q, c + 1 + 1, a, xs, M, (show [V.ref p, V.ref a, V.int (1 + dd)] = [V.ref p, V.ref a, V.int (M : Int)] by rw [hM]), st2, by omega, by omega, s2 _ _ ha1, nd, ne, h4, so, fun l ms c' H3 nl g1 g2 g3 g4 g5 g6 g7 g8 => ?_⟩
      exact got (c2 := c + 1 + 1 + 100) (by omega) (Same.trans s1 s2) l ms c' H3 g1 g2 (g5 (by omega)) (by omega) g6 (by omega) g8
    refine ⟨_, rfl, rfl, _, rfl, ?_⟩
    by_cases c0 : way = 0
    · refine iteB (decide_eq_true (show V.int way = V.int 0 by rw [c0])) ?_
      have t0 : decide (V.int way = V.int 0) = true := decide_eq_true (by rw [c0])
      refine ⟨_, rfl, a, _, rfl, .inl (SqL.of (hid_le _ _ ha1)), rfl, _, rfl, ?_⟩
      rw [List.length_map]
      by_cases c4 : xs.length = 4
      · refine iteB (decide_eq_true (show V.int (xs.length : Nat) = V.int 4 by rw [c4]; rfl)) ?_
        refine ⟨_, rfl, p, q, _, c + 1, rfl, by omega, by omega, st1, by omega, fun ee H2 ee0 ee1 st2 s2 => ⟨rfl, _, rfl, ?_⟩⟩
        have s02 := Same.trans s1 s2
        by_cases ce : ee = 0
        · refine iteB (decide_eq_true (show V.int ee = V.int 0 by rw [ce])) ?_
          refine ⟨_, rfl, _, rfl, p, q, c + 1 + 1, a, xs, rfl, st2, by omega, s02 _ _ ha, nd, h2, h4, so, c4, fun l ms c' H3 nl g1 g2 g3 g4 g5 g6 g7 => ?_⟩
          exact got (c2 := c + 1 + 1) (by omega) s02 l ms c' H3 g1 g2 g3 (by omega) g5 (by omega) g7
        · refine iteBF (decide_eq_false (show ¬ V.int ee = V.int 0 from fun e => ce (V.int.inj e))) ?_
          refine ⟨_, rfl, rfl, _, rfl, iteB t0 ?_⟩
          refine ⟨_, rfl, a, _, rfl, .inl (SqL.of (hid_le _ _ (s02 _ _ ha))), _, _, rfl, rfl, _, rfl, ?_⟩
          rw [List.length_map]
          exact iteB (decide_eq_true (by omega)) (nestR st2 (by omega) s02 (by omega))
      · refine iteBF (decide_eq_false (show ¬ V.int (xs.length : Nat) = V.int 4 from fun e => c4 (by have := V.int.inj e; omega))) (iteF ?_)
        refine ⟨_, rfl, rfl, _, rfl, iteB t0 ?_⟩
        refine ⟨_, rfl, a, _, rfl, .inl (SqL.of (hid_le _ _ ha1)), _, _, rfl, rfl, _, rfl, ?_⟩
        rw [List.length_map]
        by_cases c3 : 3 ≤ xs.length
        · exact iteB (decide_eq_true (by omega)) (nestR st1 (by omega) s1 c3)
        · refine iteBF (decide_eq_false (by omega)) ?_
          refine ⟨_, rfl, rfl, _, rfl, iteBF (decide_eq_false (show ¬ V.int way = V.int 1 from fun e => by have := V.int.inj e; omega)) ?_⟩
          refine ⟨_, rfl, rfl, _, rfl, iteBF (decide_eq_false (show ¬ V.int way = V.int 2 from fun e => by have := V.int.inj e; omega)) ?_⟩
          exact mapsR
    · refine iteBF (decide_eq_false (show ¬ V.int way = V.int 0 from fun e => c0 (V.int.inj e))) (iteF ?_)
      refine ⟨_, rfl, rfl, _, rfl, iteBF (decide_eq_false (show ¬ V.int way = V.int 0 from fun e => c0 (V.int.inj e))) (iteF ?_)⟩
      refine ⟨_, rfl, rfl, _, rfl, ?_⟩
      by_cases c1' : way = 1
      · refine iteB (decide_eq_true (show V.int way = V.int 1 by rw [c1'])) ?_
        refine ⟨_, rfl, _, rfl, p, q, c + 1, a, xs, rfl, st1, by omega, ha1, nd, h2, h4, so, trivial, fun l ms c' H2 nl g1 g2 g3 g4 g5 g6 g7 => ?_⟩
        exact got (c2 := c + 1) (by omega) s1 l ms c' H2 g1 g2 g3 (by omega) g5 (by omega) g7
      · refine iteBF (decide_eq_false (show ¬ V.int way = V.int 1 from fun e => c1' (V.int.inj e))) ?_
        refine ⟨_, rfl, rfl, _, rfl, ?_⟩
        by_cases c2' : way = 2
        · refine iteB (decide_eq_true (show V.int way = V.int 2 by rw [c2'])) ?_
          refine ⟨_, rfl, _, rfl, p, q, c + 1, a, xs, rfl, st1, by omega, ha1, nd, h2, h4, so, trivial, fun l ms c' H2 nl g1 g2 g3 g4 g5 g6 g7 => ?_⟩
          exact got (c2 := c + 1) (by omega) s1 l ms c' H2 g1 g2 g3 (by omega) g5 (by omega) g7
        · refine iteBF (decide_eq_false (show ¬ V.int way = V.int 2 from fun e => c2' (V.int.inj e))) ?_
          exact mapsR)
end
end K9

/-! ## L14 -/
set_option maxHeartbeats 2000000
namespace K9
open PySem PySem.Spec PyProof.Rows L2
theorem _root_.L2.Room.units64 {k : Nat} {A : Around} (r : Room k A) : A.units + 64 < cLine := by have := r.un; omega
theorem lock_hid {S : List Addr} {H H' : Hp} {d : Addr} {od : Obj} {u : HO} (h : H d = some u) (s : Same (hid S (upd H d (.frz od u))) (hid S H')) : Same (hid S H) (hid S (upd H' d u)) := fun b o e => by
  have e1 := hid_at e
  refine hid_of e1.1 ?_
  by_cases q : b = d
  · subst q
    rw [upd_same, ← h]
    exact e1.2
  · rw [upd_ne q]
    exact (hid_at (s _ _ (hid_of e1.1 (by rw [upd_ne q]; exact e1.2)))).2
/-- reached so far -/
structure Rch (hs : List Str) (m : Mp) (hand : Str) (F W : List Str) : Prop where
  nd : F.Nodup
  sub : ∀ x ∈ F, x ∈ hs
  me : hand ∈ F
  wf : ∀ x ∈ W, x ∈ F
  wl : W.length ≤ F.length
  snd : ∀ S : Str → Prop, S hand → (∀ x, S x → ∀ o ∈ hs, x ∈ m o → S o) → ∀ x ∈ F, S x
  cmp : ∀ x ∈ F, x ∈ W ∨ ∀ o ∈ hs, x ∈ m o → o ∈ F
theorem Rch.fin {hs : List Str} {m : Mp} {hand : Str} {F : List Str} (h : Rch hs m hand F []) (nd : hs.Nodup) : F.length = hs.length ↔ KM.Src hs m hand := by
  have cl : ∀ x ∈ F, ∀ o ∈ hs, x ∈ m o → o ∈ F := fun x hx => (h.cmp x hx).elim (fun z => by cases z) id
  constructor
  · intro e S h1 h2 y hy
    refine h.snd S h1 h2 y ?_
    have hsub : F ⊆ hs := fun x hx => h.sub x hx
    have p : (F ++ hs.filter fun x => decide (x ∉ F)).Perm hs := by
      refine (List.perm_ext_iff_of_nodup ?_ nd).mpr fun a => ?_
      · rw [List.nodup_append]
        refine ⟨h.nd, nd.filter _, fun a ha b hb e => ?_⟩
        have := (List.mem_filter.mp hb).2
        rw [← e] at this
        exact of_decide_eq_true this ha
      · rw [List.mem_append, List.mem_filter]
        constructor
        · rintro (z | z)
          · exact h.sub a z
          · exact z.1
        · intro z
          by_cases q : a ∈ F
          · exact .inl q
          · exact .inr ⟨z, decide_eq_true q⟩
    have hl := p.length_eq
    rw [List.length_append] at hl
    have e0 : (hs.filter fun x => decide (x ∉ F)) = [] := List.length_eq_zero_iff.mp (by omega)
    rw [e0, List.append_nil] at p
    exact p.mem_iff.mpr hy
  · intro hS
    have all := hS (fun x => x ∈ F) h.me cl
    exact ((List.perm_ext_iff_of_nodup h.nd nd).mpr fun a => ⟨h.sub a, all a⟩).length_eq
section
variable {P : Program} {w : World} {K : PySem.W.Frag} {mg : Str → Option Value} {base : Heap}
theorem sc_l_m_reach : FnScope ["_law_one", "_law_hand", "_law_found", "_law_waiting", "_law_here", "_law_other"] ["_law_one", "_law_hand"] (defScope s_l_m_reach) := ⟨rfl, rfl, rfl, by decide +kernel, rfl, by decide +kernel, by decide +kernel⟩
def spReach : Sp := fun vs H Q _ => ∃ d hand hs m, vs = [.ref d, .str hand] ∧ MapP H hs d m ∧ hs.Nodup ∧ hs.length < 60 ∧ hand ∈ hs ∧ SO hs ∧ ∀ r ys H', H r = none → Same H H' → Strs H' r ys → (ys.length = hs.length ↔ KM.Src hs m hand) → Q (.ref r) H'
theorem ok_l_m_reach (T : Tx K mg) : Ok P w K mg base CX0 1 "_law_m_reach" ["_law_one", "_law_hand"] spReach :=
  ok_of T d_l_m_reach (by unfold fn; simp) rfl rfl rfl rfl rfl rfl (by decide +kernel) sc_l_m_reach (fun _ _ _ _ _ _ us hl => match us, hl with | [_, _], _ => rfl) (fun vs H Q E ⟨_, _, _, _, h, _⟩ => by subst h; rfl) (fun f cdv A outer s H vs Q E hr h => by
  obtain ⟨d, hand, hs, m, rfl, hP, nd, hl, hh, so, k⟩ := h
  have hu := hu_of hr
  refine ⟨_, PSs.nox (pss_cons (ps_par (i := 2) (j := 3) rfl sc_l_m_reach.nd rfl rfl (by decide) rfl rfl (pa_cons (pe_lst (pa_cons (pv 1) pa_nil)) (pa_cons (pe_lst (pa_cons (pv 1) pa_nil)) pa_nil)) (by rfl))
    (pss_cons (ps_while PassesOwn.never (pt_cmpR (op_neDk K hr.units64) (pv 3) (pe_lst pa_nil) (nomark _))
      (pss_cons (ps_set (i := 4) sc_l_m_reach.nd rfl (by first | exact Or.inl rfl | exact Or.inr rfl) (pe_bm0k K PySem.F.plainAttrs_list PySem.F.slot_list_pop PySem.F.type_list_pop mt_pop (pv 3)))
      (pss_one (ps_lock (ps_for PassesOwn.never rfl (pi_keys (pv 0)) (pg_name (i := 5) sc_l_m_reach.nd rfl (by first | exact Or.inl rfl | exact Or.inr rfl))
        (pss_one (ps_if (PW.pt (pw_and (pt_cmpR (op_in_seqk K) (pv 4) (pe_dget hu (pv 0) (pv 5) (fun _ _ => rfl)) (by rfl)) (pw_and1 (pt_cmpR (op_notIn_seqk K) (pv 5) (pv 2) (by rfl))))) (pss_cons (ps_expr (pe_bmk K PySem.F.plainAttrs_list PySem.F.slot_list_append PySem.F.type_list_append mt_append (pv 2) (pa_cons (pv 5) pa_nil)))
          (pss_one (ps_expr (pe_bmk K PySem.F.plainAttrs_list PySem.F.slot_list_append PySem.F.type_list_append mt_append (pv 3) (pa_cons (pv 5) pa_nil))))) pss_nil)))))))
    (pss_one (ps_ret (pe_callB (cr_sortedSk K) (by rfl) (T.Z "sorted") bt_sorted (pa_cons (pv 2) pa_nil)))))), ?_⟩
  refine ⟨_, rfl, sz1, fun ff nff => ⟨_, rfl, sz1, fun wt nwt => ⟨_, _, rfl, ?_⟩⟩⟩
  have nwf : wt ≠ ff := (ne_of_none upd_same nwt).symm
  have s1 : Same H (upd (upd H ff (.lst [.str hand])) wt (.lst [.str hand])) := (same_new nff).trans (same_new nwt)
  have nw0 : H wt = none := (same_new nff).free nwt
  obtain ⟨ks, ad, hpk, hdk, hak⟩ := hP
  have ndk : ks.Nodup := hpk.nodup_iff.mpr nd
  have hkl := hpk.length_eq
  have nof : ∀ {b : Addr} {o : HO}, H b = some o → b ∉ [ff, wt] := fun e => by simp [ne_of_none e nff, ne_of_none e nw0]
  have sub1 : Same H (hid [ff, wt] (upd (upd H ff (.lst [.str hand])) wt (.lst [.str hand]))) := fun b o e => hid_of (nof e) (s1 _ _ e)
  refine ⟨fun N σ H' => ∃ v4 v5 F W, σ = [some (.ref d), some (.str hand), some (.ref ff), some (.ref wt), v4, v5] ∧ N = W.length + 2 * (hs.length - F.length) ∧ Same H (hid [ff, wt] H') ∧ Strs H' ff F ∧ Strs H' wt W ∧ Rch hs m hand F W,
    ⟨_, none, none, [hand], [hand], rfl, rfl, sub1, by show upd _ wt _ ff = _; rw [upd_ne nwf.symm, upd_same]; rfl, upd_same, ⟨by simp, fun x hx => by rw [List.mem_singleton.mp hx]; exact hh, by simp, fun x hx => hx, Nat.le_refl _, fun S h1 h2 x hx => by rw [List.mem_singleton.mp hx]; exact h1, fun x hx => .inl hx⟩⟩, ?_⟩
  rintro N σ H1 ⟨v4, v5, F, W, rfl, rfl, sH, hF, hW, R⟩
  refine ⟨_, rfl, Nat.zero_le _, fun e ne => ?_⟩
  have sE := same_new (o := .lst []) ne
  have soW : SO W := fun x hx => so x (R.sub x (R.wf x hx))
  have hFl : F.length ≤ hs.length := R.nd.length_le_of_subset fun x hx => R.sub x hx
  refine ⟨lD W, lD [], dp_l (sE _ _ hW), dp_l (l := []) upd_same, lD_shaped soW, lD_shaped (fun x h => by cases h), _, rfl, ?_⟩
  rw [eqv_lD]
  have sH2 : Same H (hid [ff, wt] (upd H1 e (.lst []))) := Same.trans sH (same_hid sE)
  generalize hH2 : upd H1 e (.lst []) = H2 at sE sH2
  have hF2 := sE _ _ hF
  have hW2 := sE _ _ hW
  by_cases cw : W = []
  · subst cw
    refine iteBF (by rw [decide_eq_true rfl]; rfl) ?_
    refine ⟨_, rfl, ff, F, rfl, SqL.of hF2, by omega, fun ys b hpm hso nb => ?_⟩
    refine k b ys _ (Same.free (Same.trans sH2 hid_le) nb) ((Same.trans sH2 hid_le).trans (same_new nb)) upd_same ?_
    rw [hpm.length_eq]
    exact R.fin nd
  · refine iteB (by rw [decide_eq_false cw]; rfl) ?_
    refine ⟨fun σ' H' => ∃ v4 v5 F' W', σ' = [some (.ref d), some (.str hand), some (.ref ff), some (.ref wt), v4, v5] ∧ W'.length + 2 * (hs.length - F'.length) < W.length + 2 * (hs.length - F.length) ∧ Same H (hid [ff, wt] H') ∧ Strs H' ff F' ∧ Strs H' wt W' ∧ Rch hs m hand F' W', fun σ' H' ⟨v4, v5, F', W', a1, a2, a3, a4, a5, a6⟩ => ⟨_, a2, v4, v5, F', W', a1, rfl, a3, a4, a5, a6⟩, ?_⟩
    obtain ⟨W0, here, rfl⟩ : ∃ W0 here, W = W0 ++ [here] := ⟨_, _, (List.dropLast_concat_getLast cw).symm⟩
    refine ⟨_, rfl, .inl ⟨rfl, _, SqL.of hW2⟩, wt, _, .str here, rfl, rfl, hW2, by simp, ?_⟩
    have edl : ((W0 ++ [here]).map V.str).dropLast = W0.map V.str := by rw [List.map_append]; exact List.dropLast_concat
    rw [edl]
    generalize hH3 : upd H2 wt (.lst (W0.map V.str)) = H3
    have sH3 : Same H (hid [ff, wt] H3) := by rw [← hH3, hid_in (by simp)]; exact sH2
    have hF3 : Strs H3 ff F := by
      show H3 ff = _
      rw [← hH3, upd_ne nwf.symm]
      exact hF2
    have hW3 : Strs H3 wt W0 := by
      show H3 wt = _
      rw [← hH3, upd_same]
    have hd3 := hid_le _ _ (sH3 _ _ hdk)
    have ndf : d ≠ ff := ne_of_none hdk nff
    have ndw : d ≠ wt := ne_of_none hdk nw0
    refine ⟨d, _, hd3, trivial, fun od => ⟨_, rfl, d, od, rfl, .inl ⟨mkv ks ad, upd_same, ?_⟩⟩⟩
    refine for_it walk_keys (fun i σ H' => ∃ v5 F' W', σ = [some (.ref d), some (.str hand), some (.ref ff), some (.ref wt), some (.str here), v5] ∧ Same (hid [ff, wt] (upd H3 d (.frz od (.dK (mkv ks ad))))) (hid [ff, wt] H') ∧ Strs H' ff F' ∧ Strs H' wt W' ∧ F.length ≤ F'.length ∧ W'.length + F.length = W0.length + F'.length ∧ F'.length ≤ F.length + i ∧ F'.Nodup ∧ (∀ x ∈ F', x ∈ hs) ∧ (∀ x ∈ F, x ∈ F') ∧ (∀ x ∈ W', x ∈ F') ∧ (∀ x ∈ W0, x ∈ W') ∧ (∀ x ∈ F', x ∈ F ∨ (x ∈ W' ∧ here ∈ m x)) ∧ (∀ o ∈ ks.take i, here ∈ m o → o ∈ F'))
      ⟨v5, F, W0, rfl, .refl _, by show upd H3 d _ ff = _; rw [upd_ne ndf.symm]; exact hF3, by show upd H3 d _ wt = _; rw [upd_ne ndw.symm]; exact hW3, Nat.le_refl _, rfl, Nat.le_refl _, R.nd, R.sub, fun x h => h, fun x hx => R.wf x (List.mem_append_left _ hx), fun x h => h, fun x h => .inl h, fun o ho => by simp at ho⟩
      (fun i σ H' _ ⟨_, _, _, _, s, _⟩ => kp_at s (by simp [ndf, ndw]) upd_same) ?_ ?_
    · rintro i x σ H4 H5 hi ⟨v5, F', W', rfl, s4, hF4, hW4, l1, l2, l3, ndF, subF, incF, wF, w0, orF, seen⟩ ⟨rfl, k0, v0, hkv, rfl⟩
      rw [mkv_len] at hi
      have hki : ks[i]? = some ks[i] := List.getElem?_eq_getElem hi
      have hkv2 : (mkv ks ad)[i]? = some ((Sum.inr ks[i] : Key), V.ref (ad ks[i])) := map_get hki
      rw [hkv2] at hkv
      obtain ⟨rfl, rfl⟩ := Prod.mk.inj (Option.some.inj hkv)
      obtain ⟨o, ho⟩ : ∃ o, o = ks[i] := ⟨_, rfl⟩
      rw [← ho] at hki ⊢
      have hok := at_mem hki
      have hoh := hpk.mem_iff.mp hok
      have hd4 : H5 d = some (.frz od (.dK (mkv ks ad))) := kp_at s4 (by simp [ndf, ndw]) upd_same
      have hao := hak o hoh
      have hao3 : H3 (ad o) = some (.lst ((m o).map V.str)) := hid_le _ _ (sH3 _ _ hao)
      have hao4 : Strs H5 (ad o) (m o) := kp_at s4 (nof hao) (by rw [upd_ne (ne_of hao3 hd3 (fun z => by cases z))]; exact hao3)
      have htk : ∀ z, z ∈ ks.take (i + 1) ↔ z ∈ ks.take i ∨ z = o := fun z => by rw [take_more hki, List.mem_append, List.mem_singleton]
      refine ⟨_, rfl, _, rfl, _, rfl, d, _, rfl, .inl ⟨mkv ks ad, Sum.inr o, .inr ⟨od, hd4⟩, rfl, (valV_mkv hok).symm⟩, ad o, _, rfl, .inl (SqL.of hao4), rfl, flat_strs _, _, rfl, ?_⟩
      have same : ∀ {σ : L2.St}, σ = [some (.ref d), some (.str hand), some (.ref ff), some (.ref wt), some (.str here), some (.str o)] → (here ∈ m o → o ∈ F') → ∃ v5 F' W', σ = [some (.ref d), some (.str hand), some (.ref ff), some (.ref wt), some (.str here), v5] ∧ Same (hid [ff, wt] (upd H3 d (.frz od (.dK (mkv ks ad))))) (hid [ff, wt] H5) ∧ Strs H5 ff F' ∧ Strs H5 wt W' ∧ F.length ≤ F'.length ∧ W'.length + F.length = W0.length + F'.length ∧ F'.length ≤ F.length + (i + 1) ∧ F'.Nodup ∧ (∀ x ∈ F', x ∈ hs) ∧ (∀ x ∈ F, x ∈ F') ∧ (∀ x ∈ W', x ∈ F') ∧ (∀ x ∈ W0, x ∈ W') ∧ (∀ x ∈ F', x ∈ F ∨ (x ∈ W' ∧ here ∈ m x)) ∧ (∀ o ∈ ks.take (i + 1), here ∈ m o → o ∈ F') := by
        intro σ e hin
        refine ⟨_, F', W', e, s4, hF4, hW4, l1, l2, by omega, ndF, subF, incF, wF, w0, orF, fun y hy hm => ?_⟩
        rcases (htk y).mp hy with z | z
        · exact seen y z hm
        · rw [z] at hm ⊢; exact hin hm
      by_cases ch : here ∈ m o
      · refine iteB (show inV (.str here) ((m o).map V.str) = true by rw [inV_str]; exact decide_eq_true ch) ?_
        refine ⟨_, rfl, _, rfl, ff, _, rfl, .inl (SqL.of hF4), rfl, flat_strs _, _, rfl, ?_⟩
        by_cases co : o ∈ F'
        · exact iteBF (by show (!inV (.str o) (F'.map V.str)) = false; rw [inV_str, decide_eq_true co]; rfl) (same rfl fun _ => co)
        · refine iteB (by show (!inV (.str o) (F'.map V.str)) = true; rw [inV_str, decide_eq_false co]; rfl) ?_
          have hFl' : F'.length ≤ hs.length := ndF.length_le_of_subset fun x hx => subF x hx
          have ewt : upd H5 ff (.lst (F'.map V.str ++ [V.str o])) wt = some (.lst (W'.map V.str)) := by rw [upd_ne nwf]; exact hW4
          refine ⟨_, rfl, .inl ⟨rfl, _, SqL.of hF4⟩, _, rfl, ff, _, _, rfl, rfl, hF4, by rw [List.length_map]; exact small1000 (by omega), ?_⟩
          have hwl := R.wl
          rw [List.length_append] at hwl
          have hwl2 : W0.length + 1 ≤ F.length := hwl
          refine ⟨_, rfl, .inl ⟨rfl, _, SqL.of ewt⟩, _, rfl, wt, _, _, rfl, rfl, ewt, by rw [List.length_map]; exact small1000 (by omega), ?_⟩
          refine ⟨_, F' ++ [o], W' ++ [o], rfl, ?_, ?_, ?_, ?_, ?_, ?_, ?_, ?_, ?_, ?_, ?_, ?_, ?_⟩
          · rw [hid_in (a := wt) (by simp), hid_in (a := ff) (by simp)]
            exact s4
          · show upd _ wt _ ff = _
            rw [upd_ne nwf.symm, upd_same, List.map_append]
            rfl
          · show upd _ wt _ wt = _
            rw [upd_same, List.map_append]
            rfl
          · rw [List.length_append]; omega
          · rw [List.length_append, List.length_append]; omega
          · rw [List.length_append]; show F'.length + 1 ≤ _; omega
          · rw [List.nodup_append]
            exact ⟨ndF, by simp, fun z hz z' hz' e => co (by rw [← List.mem_singleton.mp hz', ← e]; exact hz)⟩
          · intro x hx
            rcases List.mem_append.mp hx with z | z
            · exact subF x z
            · rw [List.mem_singleton.mp z]; exact hoh
          · exact fun x hx => List.mem_append_left _ (incF x hx)
          · intro x hx
            rcases List.mem_append.mp hx with z | z
            · exact List.mem_append_left _ (wF x z)
            · exact List.mem_append_right _ z
          · exact fun x hx => List.mem_append_left _ (w0 x hx)
          · intro x hx
            rcases List.mem_append.mp hx with z | z
            · rcases orF x z with y | y
              · exact .inl y
              · exact .inr ⟨List.mem_append_left _ y.1, y.2⟩
            · rw [List.mem_singleton.mp z]; exact .inr ⟨by simp, ch⟩
          · intro y hy hm
            rcases (htk y).mp hy with z | z
            · exact List.mem_append_left _ (seen y z hm)
            · rw [z]; simp
      · exact iteBF (show inV (.str here) ((m o).map V.str) = false by rw [inV_str]; exact decide_eq_false ch) (iteF (same rfl fun z => absurd z ch))
    · rintro σ H4 ⟨v5, F', W', rfl, s4, hF4, hW4, l1, l2, l3, ndF, subF, incF, wF, w0, orF, seen⟩
      rw [mkv_len, List.take_length] at seen
      have hwl := R.wl
      rw [List.length_append] at hwl
      have hwl2 : W0.length + 1 ≤ F.length := hwl
      have hFl' : F'.length ≤ hs.length := ndF.length_le_of_subset fun x hx => subF x hx
      have hhere : here ∈ F := R.wf here (by simp)
      have nfd : ff ≠ d := ndf.symm
      have nwd : wt ≠ d := ndw.symm
      refine ⟨kp_at s4 (by simp [ndf, ndw]) upd_same, _, _, F', W', rfl, ?_, Same.trans sH3 (lock_hid hd3 s4), by show upd H4 d _ ff = _; rw [upd_ne nfd]; exact hF4, by show upd H4 d _ wt = _; rw [upd_ne nwd]; exact hW4, ⟨ndF, subF, incF _ R.me, wF, by omega, fun S h1 h2 x hx => ?_, fun x hx => ?_⟩⟩
      · rw [List.length_append]
        show _ < W0.length + 1 + _
        omega
      · rcases orF x hx with z | z
        · exact R.snd S h1 h2 x z
        · exact h2 here (R.snd S h1 h2 here hhere) x (subF x hx) z.2
      · rcases orF x hx with z | z
        · rcases R.cmp x z with y | y
          · rcases List.mem_append.mp y with q | q
            · exact .inl (w0 x q)
            · rw [List.mem_singleton.mp q]
              exact .inr fun o ho hm => seen o (hpk.mem_iff.mpr ho) hm
          · exact .inr fun o ho hm => incF o (y o ho hm)
        · exact .inl z.1)
end
end K9

/-! ## L15 -/
set_option maxHeartbeats 2000000
namespace K9
open PySem PySem.Spec PyProof.Rows L2
open Classical in
noncomputable def srcs (hs : List Str) (m : Mp) : List Str := (srt hs).filter fun x => decide (KM.Src hs m x)
open Classical in
theorem mem_srcs {hs : List Str} {m : Mp} {x : Str} : x ∈ srcs hs m ↔ x ∈ hs ∧ KM.Src hs m x := by
  unfold srcs
  rw [List.mem_filter, mem_srt, decide_eq_true_eq]
/-- the lists of those who are sure -/
def SureAt (H : Hp) (hs : List Str) (l : Addr) (ms : List Mp) : Prop := ∃ ps : List Addr, H l = some (.lst (ps.map V.ref)) ∧ Paired (fun p m => Strs H p (srcs hs m)) ps ms
theorem SureAt.mono {H H' : Hp} {hs : List Str} {l : Addr} {ms : List Mp} (s : Same H H') (h : SureAt H hs l ms) : SureAt H' hs l ms := let ⟨ps, h1, h2⟩ := h; ⟨ps, s _ _ h1, L2.Paired.mapP h2 fun _ _ h => s _ _ h⟩
section
variable {P : Program} {w : World} {K : PySem.W.Frag} {mg : Str → Option Value} {base : Heap}
theorem sc_l_m_sources : FnScope ["_law_one", "_law_hand"] ["_law_one"] (defScope s_l_m_sources) := ⟨rfl, rfl, rfl, by decide +kernel, rfl, by decide +kernel, by decide +kernel⟩
def spSources : Sp := fun vs H Q _ => ∃ d hs m, vs = [.ref d] ∧ MapP H hs d m ∧ hs.Nodup ∧ hs.length < 60 ∧ SO hs ∧ ∀ r H', H r = none → Same H H' → Strs H' r (srcs hs m) → Q (.ref r) H'
theorem ok_l_m_sources (T : Tx K mg) : Ok P w K mg base CX0 2 "_law_m_sources" ["_law_one"] spSources :=
  ok_of T d_l_m_sources (by unfold fn; simp) rfl rfl rfl rfl rfl rfl (by decide +kernel) sc_l_m_sources (fun _ _ _ _ _ _ us hl => match us, hl with | [_], _ => rfl) (fun vs H Q E ⟨_, _, _, h, _⟩ => by subst h; rfl) (fun f cdv A outer s H vs Q E hr h => by
  obtain ⟨d, hs, m, rfl, hP, nd, hl, so, k⟩ := h
  have hP' := hP
  obtain ⟨ks, ad, hp, hd, ha⟩ := hP
  refine ⟨_, PSs.nox (pss_one (ps_ret (pe_lc (own := [("_law_hand", 1)])  rfl sc_l_m_sources.nd (pi_listk K (pe_callB (call_sortedD rfl) (by rfl) (T.Z "sorted") bt_sorted (pa_cons (pv 0) pa_nil))) (blkOk_by (by kernel_rfl)) (fun _ _ _ _ _ => (pg_name (i := 1) sc_l_m_sources.nd rfl (by first | exact Or.inl rfl | exact Or.inr rfl))) (fun _ _ _ _ _ => (pts_one (pt_cmpR op_eq (pe_callB (call_len_seqk K) (by rfl) (T.Z "len") bt_len (pa_cons (pe_c (ok_l_m_reach T) (hr.mono (by first | decide | omega)) pass0 (pa_cons (pv 0) (pa_cons (pv 1) pa_nil))) pa_nil)) (pe_callB call_lenD (by rfl) (T.Z "len") bt_len (pa_cons (pv 0) pa_nil)) (nomark _)))) (fun _ _ _ _ _ => (pv 1))))), ?_⟩
  refine ⟨_, rfl, d, _, ks, rfl, .of hd, mkv_keys ks ad, by rw [hp.length_eq]; omega, fun ys r hp2 hso nr => ?_⟩
  rw [show ys = srt hs from srt_is (hp2.trans hp) hso]
  have s1 := same_new (o := .lst ((srt hs).map V.str)) nr
  refine ⟨r, rfl, ⟨_, SqL.of upd_same⟩, ?_⟩
  classical
  refine lcl (srt hs) V.str (fun x => decide (KM.Src hs m x)) V.str (SqL.of upd_same) (by rw [srt_len]; omega) ?_ ?_
  · rintro i x H2 hx s2 Kt Kf kt kf
    have hxm : x ∈ hs := mem_srt.mp (at_mem hx)
    refine ⟨rfl, ?_⟩
    refine ⟨_, rfl, _, rfl, d, x, hs, m, rfl, hP'.mono (s1.trans s2), nd, hl, hxm, so, fun r2 zs H3 nr2 s3 hr2 hz => ?_⟩
    refine ⟨r2, _, rfl, .inl (SqL.of hr2), ?_⟩
    refine ⟨_, rfl, d, _, rfl, (s1.trans (s2.trans s3)) _ _ hd, rfl, _, rfl, ?_⟩
    rw [List.length_map, mkv_len, hp.length_eq]
    by_cases c : KM.Src hs m x
    · refine iteB (decide_eq_true (by rw [hz.mpr c])) ?_
      exact ⟨_, rfl, kt (decide_eq_true c) _ s3⟩
    · refine iteBF (decide_eq_false fun e => c (hz.mp (by have := V.int.inj e; omega))) ?_
      exact kf (decide_eq_false c) _ s3
  · intro D H2 hD s2 hA
    refine k D H2 (s1.free hD) (s1.trans s2) ?_
    show H2 D = _
    rw [hA]
    unfold srcs
    congr 3)
theorem sc_l_m_sure : FnScope ["_law_maps_here", "_law_one"] ["_law_maps_here"] (defScope s_l_m_sure) := ⟨rfl, rfl, rfl, by decide +kernel, rfl, by decide +kernel, by decide +kernel⟩
def spSure : Sp := fun vs H Q _ => ∃ (l : Addr) (hs : List Str) (ms : List Mp) (S : List Addr), vs = [.ref l] ∧ MapsP H hs l ms ∧ hs.Nodup ∧ hs.length < 60 ∧ SO hs ∧ ms.length ≤ 100 ∧ (∀ b ∈ S, ∃ o, H b = some o) ∧ ∀ r H', H r = none → Same H H' → SureAt (hid S H') hs r ms → Q (.ref r) H'
theorem ok_l_m_sure (T : Tx K mg) : Ok P w K mg base CX0 3 "_law_m_sure" ["_law_maps_here"] spSure :=
  ok_of T d_l_m_sure (by unfold fn; simp) rfl rfl rfl rfl rfl rfl (by decide +kernel) sc_l_m_sure (fun _ _ _ _ _ _ us hl => match us, hl with | [_], _ => rfl) (fun vs H Q E ⟨_, _, _, _, h, _⟩ => by subst h; rfl) (fun f cdv A outer s H vs Q E hr h => by
  obtain ⟨l, hs, ms, S, rfl, ⟨ds, hl1, hds⟩, nd, hl, so, hml, hS, k⟩ := h
  refine ⟨_, PSs.nox (pss_one (ps_ret (pe_lc (own := [("_law_one", 1)])  rfl sc_l_m_sure.nd (pi_listk K (pv 0)) (blkOk_by (by kernel_rfl)) (fun _ _ _ _ _ => (pg_name (i := 1) sc_l_m_sure.nd rfl (by first | exact Or.inl rfl | exact Or.inr rfl))) (fun _ _ _ _ _ => pts_nil) (fun _ _ _ _ _ => (pe_c (ok_l_m_sources T) (hr.mono (by first | decide | omega)) pass0 (pa_cons (pv 1) pa_nil)))))), ?_⟩
  have hlen2 := hds.length
  refine ⟨_, rfl, l, rfl, ⟨_, SqL.of hl1⟩, ?_⟩
  refine lcd (walk_list (xs := ds.map V.ref)) (by rw [List.length_map]; omega) S (fun _ => true) (fun D i H' => Same H H') (fun i y H' => ∃ m p, ms[i]? = some m ∧ y = .ref p ∧ Strs H' p (srcs hs m))
    (fun i y H1 H2 s ⟨m, d, e1, e2, e3⟩ => ⟨m, d, e1, e2, s _ _ e3⟩) (fun D o hD => same_new hD) (fun D i H' o hD s => same_mut s hD) (fun D i H' hD hi s => SqL.of (s _ _ hl1)) ?_ ?_
  · rintro D i y H2 H3 acc hD hi s1 hA ⟨rfl, hy⟩ Kt Kf kt kf
    obtain ⟨d, hd, rfl⟩ := map_at hy
    obtain ⟨m, hmi, hP⟩ := paired_at hds hd
    refine ⟨rfl, tyes ?_⟩
    refine ⟨_, rfl, d, hs, m, rfl, hP.mono s1, nd, hl, so, fun p H4 np s4 hp => ?_⟩
    refine kt rfl _ _ (s1.trans s4) (s4 _ _ hA) (same_hid s4) ⟨m, p, hmi, rfl, hid_of (fun z => ?_) hp⟩
    rcases List.mem_cons.mp z with e | e
    · exact ne_of_none hA np e.symm
    · obtain ⟨o, ho⟩ := hS p e
      exact ne_of_none (s1 _ _ ho) np rfl
  · intro D H2 ys hD s1 hA hp
    rw [List.length_map, hlen2] at hp
    obtain ⟨ps, e1, e2⟩ := paired_range0 (G := fun p m => Strs (hid (D :: S) H2) p (srcs hs m)) hp fun i y m hi ⟨m', d, h5, h6, h7⟩ => ⟨d, h6, by rw [hi] at h5; cases h5; exact h7⟩
    refine k D H2 hD s1 ⟨ps, hid_of (nin_of hS (.refl _) hD) (by rw [hA, e1]), L2.Paired.mapP e2 fun _ _ h => hid_sub (fun b hb => List.mem_cons_of_mem _ hb) _ _ h⟩)
/-! ### a world of hands and maps -/
theorem sc_l_m_world : FnScope ["_law_stream", "_law_most", "_law_many", "_law_hands_here", "_law_maps_here"] ["_law_stream", "_law_most", "_law_many"] (defScope s_l_m_world) := ⟨rfl, rfl, rfl, by decide +kernel, rfl, by decide +kernel, by decide +kernel⟩
theorem six_so : SO six := by unfold SO six; decide +kernel
def spWorld : Sp := fun vs H Q _ => ∃ p q c, vs = [.ref p, .int 4, .int 5] ∧ Stm H p q c ∧ c + 3000 ≤ 1000000000 ∧
  ∀ t lh lm ls xs ms c' H', H t = none → H' t = some (.tup [.ref lh, .ref lm, .ref ls]) → Strs (hid [p, q] H') lh xs → xs.Nodup → (∀ x ∈ xs, x ∈ six) → 2 ≤ xs.length → xs.length ≤ 4 → MapsP (hid [p, q] H') xs lm ms → MG xs ms → ms.Pairwise (fun m m' => ¬ Eqm xs m m') → ms ≠ [] → ms.length ≤ 5 →
    SureAt (hid [p, q] H') xs ls ms → Stm H' p q c' → c' ≤ c + 1100 → Kp p q H H' → Q (.ref t) H'
theorem ok_l_m_world (T : Tx K mg) : Ok P w K mg base CX0 6 "_law_m_world" ["_law_stream", "_law_most", "_law_many"] spWorld :=
  ok_of T d_l_m_world (by unfold fn; simp) rfl rfl rfl rfl rfl rfl (by decide +kernel) sc_l_m_world (fun _ _ _ _ _ _ us hl => match us, hl with | [_, _, _], _ => rfl) (fun vs H Q E ⟨_, _, _, h, _⟩ => by subst h; rfl) (fun f cdv A outer s H vs Q E hr h => by
  obtain ⟨p, q, c, rfl, st, hc, k⟩ := h
  refine ⟨_, PSs.nox (pss_cons (ps_set (i := 3) sc_l_m_world.nd rfl (by first | exact Or.inl rfl | exact Or.inr rfl) (pe_c (ok_l_hands T) (hr.mono (by first | decide | omega)) pass0 (pa_cons (pv 0) (pa_cons (pe_op op_add pe_int (pe_c (ok_l_draw T) (hr.mono (by first | decide | omega)) pass0 (pa_cons (pv 0) (pa_cons (pe_op op_sub (pv 1) pe_int) pa_nil)))) pa_nil))))
    (pss_cons (ps_set (i := 4) sc_l_m_world.nd rfl (by first | exact Or.inl rfl | exact Or.inr rfl) (pe_c (ok_l_m_maps T) (hr.mono (by first | decide | omega)) pass0 (pa_cons (pv 0) (pa_cons (pv 3) (pa_cons (pv 2) pa_nil)))))
    (pss_one (ps_ret (pe_tup (pa_cons (pv 3) (pa_cons (pv 4) (pa_cons (pe_c (ok_l_m_sure T) (hr.mono (by first | decide | omega)) pass0 (pa_cons (pv 4) pa_nil)) pa_nil)))))))), ?_⟩
  refine ⟨_, rfl, _, rfl, _, rfl, _, _, rfl, rfl, p, q, _, c, rfl, by omega, by omega, st, by omega, fun dd H1 dd0 dd1 st1 s1 => ?_⟩
  obtain ⟨N, hN⟩ : ∃ N : Nat, (2 : Int) + dd = (N : Int) := ⟨(2 + dd).toNat, by omega⟩
  refine ⟨_, _, rfl, rfl, ?_⟩
  refine ⟨p, q, c + 1, N, (show [V.ref p, V.int (2 + dd)] = [V.ref p, V.int (N : Int)] by rw [hN]), st1, by omega, by omega, fun lh xs H2 nlh ndx hx6 hxl hlh st2 s2 => ?_⟩
  have so : SO xs := fun x hx => six_so x (hx6 x hx)
  have hx2 : 2 ≤ xs.length := by omega
  have hx4 : xs.length ≤ 4 := by omega
  refine ⟨_, rfl, _, rfl, _, rfl, p, q, c + 1 + 6, lh, xs, 5, rfl, st2, by omega, by omega, by omega, hlh, ndx, hx2, hx4, so, fun lm ms c3 H3 nlm hM mg3 pw ne3 ml3 st3 hc3 s3 => ?_⟩
  have hlh3 := s3 _ _ hlh
  refine ⟨_, rfl, _, rfl, _, rfl, lm, xs, ms, [p, q], rfl, hM.mono hid_le, ndx, by omega, so, by omega, fun b hb => ?_, fun ls H4 nls s4 hsure => ?_⟩
  · obtain ⟨e1, e2⟩ := st3.tr
    simp at hb
    rcases hb with e | e <;> rw [e] <;> assumption
  refine ⟨sz3, fun t nt => ?_⟩
  have s5 := same_new (o := .tup [.ref lh, .ref lm, .ref ls]) nt
  have s35 := s4.trans s5
  have sA : Kp p q H H3 := Same.trans (Same.trans s1 s2) s3
  exact k t lh lm ls xs ms c3 _ (kp_no sA st3 (s4.free nt) st) upd_same (same_hid s35 _ _ hlh3) ndx hx6 hx2 hx4 (hM.mono (same_hid s35)) mg3 pw ne3 ml3 (hsure.mono (same_hid s5)) (st3.mono s35) (by omega) (Same.trans sA (same_hid s35)))
end
end K9

/-! ## L16 -/
set_option maxHeartbeats 2000000
namespace K9
open PySem PySem.Spec PyProof.Rows L2 PySem.W
/-! ### sorted of pairs (length, list of texts) -/
def encT (e : Addr × List Str) : PyData := .tuple [.int e.2.length, lD e.2]
theorem alike_strs : ∀ xs ys : List Str, alikeAll (xs.map .str) (ys.map .str) = true
  | [], _ => by simp [alikeAll]
  | _ :: _, [] => by simp [alikeAll]
  | x :: xs, y :: ys => by
    show alikeAll (.str x :: xs.map .str) (.str y :: ys.map .str) = true
    rw [alikeAll, alike_strs xs ys]
    simp [alike]
theorem alikeT (e e' : Addr × List Str) : alike (encT e) (encT e') = true := by
  have h := alike_strs e.2 e'.2
  simp [encT, lD, alike, alikeAll, h]
theorem depT (e : Addr × List Str) : (encT e).depth ≤ 2 := by
  have h := lD_dep e.2
  simp only [encT, PyData.depth, PyData.depthAll]
  omega
def rSortT (K : PySem.W.Frag) : List V → Hp → VK → Prop := fun xs H Q => ∃ (a : Addr) (es : List (Addr × List Str)), xs = [.ref a] ∧ SqL K H a (es.map fun e => V.ref e.1) ∧ (∀ e ∈ es, ∃ b, SqT K H e.1 [.int e.2.length, .ref b] ∧ SqL K H b (e.2.map V.str)) ∧ es.length ≤ 1000 ∧
  ∀ (es' : List (Addr × List Str)) (D : Addr), es'.Perm es → H D = none → Q (.ref D) (upd H D (.lst (es'.map fun e => V.ref e.1)))
section
variable {X : Cx}
theorem each_refs {α : Type} {f : α → Addr} : ∀ {es : List α} {its : List Value}, Vals (es.map fun e => V.ref (f e)) its → EachIs (fun v e => v = Value.ref (f e)) its es
  | [], _, r => by cases r; exact .nil
  | e :: es, _, r => by
    cases r with
    | cons h t => exact .cons h (each_refs t)
theorem vals_refs {α : Type} {f : α → Addr} : ∀ {es : List α} {its : List Value}, EachIs (fun v e => v = Value.ref (f e)) its es → Vals (es.map fun e => V.ref (f e)) its
  | [], _, r => by cases r; exact .nil
  | e :: es, _, r => by
    cases r with
    | cons h t => exact .cons h (vals_refs t)
theorem each_mem2 {α β : Type} {R S : α → β → Prop} : ∀ {as : List α} {bs : List β}, EachIs R as bs → (∀ a b, b ∈ bs → R a b → S a b) → EachIs S as bs
  | _, _, .nil, _ => .nil
  | _, _, .cons h t, k => .cons (k _ _ List.mem_cons_self h) (each_mem2 t fun a b hb => k a b (List.mem_cons_of_mem _ hb))
theorem call_sortedT (hu : X.A.units + 64 < cLine) : CallR X (.builtin "sorted") (rSortT X.K) := by
  intro pins s σ H xs us Q I r q
  obtain ⟨a, es, ex, hl, hes, hsz, q⟩ := q
  subst ex
  obtain ⟨u, eu, rx⟩ := vals1 r
  subst eu
  cases rx
  obtain ⟨its, rv, pl, hz⟩ := I.list hl
  have e := each_refs rv
  have er : EachIs (fun v b => ∃ as, Reads s.heap v (encT b) as) its es := each_mem2 e fun v b hb hv => by
    obtain ⟨c, h1, h2⟩ := hes b hb
    exact Dp.reads I (encT b) (.ref b.1) v (.tup h1 (.cons (.int _) (.cons (.lst h2 (dpAll_str _)) .nil))) hv
  refine sorted_data (R := fun v b => v = Value.ref b.1) (enc := encT) (bs := es) pl.isList e er (AllAlike.of alikeT) (Sortable.tuples fun _ => ⟨_, _, rfl⟩) (sz1000 hsz) (fun b _ => ?_) fun out ho eo => ?_
  · have := depT b
    omega
  · obtain ⟨c, hc⟩ := sortedAll_at s.heap its out.toArray
    have hp : (es.mergeSort (dataLe false encT)).Perm es := List.mergeSort_perm ..
    refine ⟨.ref (s.heap.objs.size + 1), upd H (s.heap.objs.size + 1) (.lst ((es.mergeSort (dataLe false encT)).map fun e => V.ref e.1)), I.laid (t' := s.toks) (fun b u e => sortedAll_old e) (Nat.le_succ _) ?_, rfl, q _ _ hp (I.hok.fresh (Nat.le_succ _))⟩
    refine (show ObjOk X.prog X.w _ _ _ (.lst _) from ⟨?_, out, c, vals_refs eo, hc⟩)
    rw [List.length_map, hp.length_eq]
    exact sz1000 hsz
theorem call_sortedTk (K : PySem.W.Frag) (hu : X.A.units + 64 < cLine) (h : X.K = K := by rfl) : CallR X (.builtin "sorted") (rSortT K) := by subst h; exact call_sortedT hu
end
end K9

/-! ## L17 -/
set_option maxHeartbeats 2000000
namespace K9
open PySem PySem.Spec PyProof.Rows L2
/-- a list of lists of texts -/
def LotsAt (H : Hp) (l : Addr) (ls : List (List Str)) : Prop := ∃ ps : List Addr, H l = some (.lst (ps.map V.ref)) ∧ Paired (fun p lot => Strs H p lot) ps ls
theorem LotsAt.mono {H H' : Hp} {l : Addr} {ls : List (List Str)} (s : Same H H') (h : LotsAt H l ls) : LotsAt H' l ls := let ⟨ps, h1, h2⟩ := h; ⟨ps, s _ _ h1, L2.Paired.mapP h2 fun _ _ h => s _ _ h⟩
theorem sub_snoc {lot l : List Str} {x : Str} : lot.Sublist (l ++ [x]) ↔ lot.Sublist l ∨ ∃ l', l'.Sublist l ∧ lot = l' ++ [x] := by
  rw [List.sublist_append_iff]
  constructor
  · rintro ⟨l1, l2, rfl, h1, h2⟩
    cases h2 with
    | cons _ h => rw [List.sublist_nil.mp h, List.append_nil]; exact .inl h1
    | cons_cons _ h => rw [List.sublist_nil.mp h]; exact .inr ⟨l1, h1, rfl⟩
  · rintro (h | ⟨l', h, rfl⟩)
    · exact ⟨lot, [], by simp, h, by simp⟩
    · exact ⟨l', [x], rfl, h, .refl _⟩
/-- from lists of pairs told one by one -/
theorem pairs_of {G : Nat → Addr → List Str → Prop} : ∀ {is : List Nat} {ys : List V}, Paired (fun i y => ∃ t lot, y = V.ref t ∧ G i t lot) is ys → ∃ es : List (Addr × List Str), ys = es.map (fun e => V.ref e.1) ∧ Paired (fun i (e : Addr × List Str) => G i e.1 e.2) is es
  | _, _, .nil => ⟨[], rfl, .nil⟩
  | _, _, .cons ⟨t, lot, e, g⟩ r => by
    obtain ⟨es, h1, h2⟩ := pairs_of r
    exact ⟨(t, lot) :: es, by rw [e, h1]; rfl, .cons g h2⟩
theorem paired_mem {α β : Type} {R : α → β → Prop} : ∀ {as : List α} {bs : List β} {b : β}, Paired R as bs → b ∈ bs → ∃ a ∈ as, R a b
  | _, _, _, .cons r t, h => by
    rcases List.mem_cons.mp h with e | h
    · rw [e]; exact ⟨_, List.mem_cons_self, r⟩
    · obtain ⟨a, h1, h2⟩ := paired_mem t h
      exact ⟨a, List.mem_cons_of_mem _ h1, h2⟩
theorem paired_mem' {α β : Type} {R : α → β → Prop} : ∀ {as : List α} {bs : List β} {a : α}, Paired R as bs → a ∈ as → ∃ b ∈ bs, R a b
  | _, _, _, .cons r t, h => by
    rcases List.mem_cons.mp h with e | h
    · rw [e]; exact ⟨_, List.mem_cons_self, r⟩
    · obtain ⟨a, h1, h2⟩ := paired_mem' t h
      exact ⟨a, List.mem_cons_of_mem _ h1, h2⟩
theorem paired_self {α β γ : Type} {R : β → γ → Prop} {f : α → β} {g : α → γ} : ∀ {es : List α}, (∀ e ∈ es, R (f e) (g e)) → Paired R (es.map f) (es.map g)
  | [], _ => .nil
  | e :: es, h => .cons (h e List.mem_cons_self) (paired_self fun e he => h e (List.mem_cons_of_mem _ he))
section
variable {P : Program} {w : World} {K : PySem.W.Frag} {mg : Str → Option Value} {base : Heap}
theorem sc_l_m_lots : FnScope ["_law_things", "_law_found", "_law_thing", "_law_many", "_law_lot"] ["_law_things"] (defScope s_l_m_lots) := ⟨rfl, rfl, rfl, by decide +kernel, rfl, by decide +kernel, by decide +kernel⟩
def spLots : Sp := fun vs H Q _ => ∃ a xs, vs = [.ref a] ∧ Strs H a xs ∧ xs.Nodup ∧ xs.length ≤ 6 ∧ SO xs ∧ ∀ r ls H', H r = none → Same H H' → LotsAt H' r ls → ls.length ≤ 64 → (∀ lot, lot ∈ ls ↔ lot ≠ [] ∧ lot.Sublist (srt xs)) → Q (.ref r) H'
theorem ok_l_m_lots (T : Tx K mg) : Ok P w K mg base CX0 1 "_law_m_lots" ["_law_things"] spLots :=
  ok_of T d_l_m_lots (by unfold fn; simp) rfl rfl rfl rfl rfl rfl (by decide +kernel) sc_l_m_lots (fun _ _ _ _ _ _ us hl => match us, hl with | [_], _ => rfl) (fun vs H Q E ⟨_, _, h, _⟩ => by subst h; rfl) (fun f cdv A outer s H vs Q E hr h => by
  obtain ⟨a, xs, rfl, ha, nd, hl, so, k⟩ := h
  refine ⟨_, PSs.nox (pss_cons (ps_set (i := 1) sc_l_m_lots.nd rfl (by first | exact Or.inl rfl | exact Or.inr rfl) (pe_lst (pa_cons (pe_lst pa_nil) pa_nil)))
    (pss_cons (ps_for PassesOwn.never rfl (pi_listk K (pe_callB (cr_sortedSk K) (by rfl) (T.Z "sorted") bt_sorted (pa_cons (pv 0) pa_nil))) (pg_name (i := 2) sc_l_m_lots.nd rfl (by first | exact Or.inl rfl | exact Or.inr rfl))
      (pss_one (ps_expr (pe_bmk K PySem.F.plainAttrs_list PySem.F.slot_list_extend PySem.F.type_list_extend mt_extend (pv 1) (pa_cons (pe_lc (own := [("_law_lot", 4)])  rfl sc_l_m_lots.nd (pi_listk K (pe_callTy (call_list_ofk K) (by rfl) (T.Z "list") bt_list (pa_cons (pv 1) pa_nil))) (blkOk_by (by kernel_rfl)) (fun _ _ _ _ _ => (pg_name (i := 4) sc_l_m_lots.nd rfl (by first | exact Or.inl rfl | exact Or.inr rfl))) (fun _ _ _ _ _ => pts_nil) (fun _ _ _ _ _ => (pe_op op_cat (pv 4) (pe_lst (pa_cons (pv 2) pa_nil))))) pa_nil)))))
    (pss_one (ps_ret (pe_lc (own := [("_law_many", 3), ("_law_lot", 4)])  rfl sc_l_m_lots.nd (pi_listk K (pe_callB (call_sortedTk K hr.units64) (by rfl) (T.Z "sorted") bt_sorted (pa_cons (pe_lc (own := [("_law_lot", 4)])  rfl sc_l_m_lots.nd (pi_listk K (pv 1)) (blkOk_by (by kernel_rfl)) (fun _ _ _ _ _ => (pg_name (i := 4) sc_l_m_lots.nd rfl (by first | exact Or.inl rfl | exact Or.inr rfl))) (fun _ _ _ _ _ => (pts_one (pt_cmpR (op_neDk K hr.units64) (pv 4) (pe_lst pa_nil) (nomark _)))) (fun _ _ _ _ _ => (pe_tup (pa_cons (pe_callB (call_len_seqk K) (by rfl) (T.Z "len") bt_len (pa_cons (pv 4) pa_nil)) (pa_cons (pv 4) pa_nil))))) pa_nil))) (blkOk_by (by kernel_rfl)) (fun _ _ _ _ _ => (pg_tupk K (n := 2) rfl (pgs_cons (pg_name (i := 3) sc_l_m_lots.nd rfl (by first | exact Or.inl rfl | exact Or.inr rfl)) (pgs_cons (pg_name (i := 4) sc_l_m_lots.nd rfl (by first | exact Or.inl rfl | exact Or.inr rfl)) pgs_nil)))) (fun _ _ _ _ _ => pts_nil) (fun _ _ _ _ _ => (pv 4))))))), ?_⟩
  refine ⟨Nat.zero_le _, fun e0 ne0 => ⟨sz1, fun ff nff => ?_⟩⟩
  have s0 := same_new (o := .lst []) ne0
  have sf := same_new (o := .lst [.ref e0]) nff
  have nfH : H ff = none := s0.free nff
  have nef : e0 ≠ ff := ne_of_none upd_same nff
  refine ⟨_, rfl, a, xs, rfl, SqL.of (sf _ _ (s0 _ _ ha)), by omega, fun zs r hpm hso nr => ?_⟩
  rw [srt_is hpm hso]
  have sr := same_new (o := .lst ((srt xs).map V.str)) nr
  have hzl := srt_len xs
  have nrf : r ≠ ff := (ne_of_none upd_same nr).symm
  have hff0 := sr _ _ (upd_same : upd (upd H e0 (.lst [])) ff (.lst [.ref e0]) ff = _)
  have he0 : Strs (hid [ff] (upd (upd (upd H e0 (.lst [])) ff (.lst [.ref e0])) r (.lst ((srt xs).map V.str)))) e0 [] := hid_of (by simpa using nef) (sr _ _ (sf _ _ upd_same))
  have sH0 : Same H (hid [ff] (upd (upd (upd H e0 (.lst [])) ff (.lst [.ref e0])) r (.lst ((srt xs).map V.str)))) := fun b o e => hid_of (by simpa using ne_of_none e nfH) (sr _ _ (sf _ _ (s0 _ _ e)))
  refine ⟨r, rfl, ⟨_, SqL.of upd_same⟩, for_list (K := K) (a := r) (xs := (srt xs).map V.str) (fun i σ H' => ∃ v2 ps ls, σ = [some (.ref a), some (.ref ff), v2, none, none] ∧ Same H (hid [ff] H') ∧ Strs (hid [ff] H') r (srt xs) ∧ H' ff = some (.lst (ps.map V.ref)) ∧ Paired (fun p lot => Strs (hid [ff] H') p lot) ps ls ∧ ls.length ≤ 2 ^ i ∧ ∀ lot, lot ∈ ls ↔ lot.Sublist ((srt xs).take i))
    ⟨none, [e0], [[]], rfl, sH0, hid_of (by simpa using nrf) upd_same, hff0, .cons he0 .nil, Nat.le_refl _, fun lot => by simp⟩ (fun i σ H' _ ⟨_, _, _, _, _, h, _⟩ => SqL.of (hid_le _ _ h)) ?_ ?_⟩
  · rintro i y σ H1 hi ⟨v2, ps, ls, rfl, sH, hr1, hf1, hp1, hl1, hm1⟩
    obtain ⟨x, hx, rfl⟩ := map_at hi
    have hi6 : i < 6 := by have := at_lt hx; omega
    have hl32 : ls.length ≤ 32 := Nat.le_trans hl1 (Nat.pow_le_pow_right (by decide) (show i ≤ 5 by omega))
    have hpl := hp1.length
    refine ⟨_, rfl, .inl ⟨rfl, _, SqL.of hf1⟩, _, rfl, ff, _, rfl, .inl (SqL.of hf1), fun cc ncc => ⟨cc, rfl, ⟨_, SqL.of upd_same⟩, ?_⟩⟩
    have scc := same_new (o := .lst (ps.map V.ref)) ncc
    refine lcd (walk_list (xs := ps.map V.ref)) (by rw [List.length_map]; omega) [ff] (fun _ => true) (fun D i H' => Same (upd H1 cc (.lst (ps.map V.ref))) H') (fun j y H' => ∃ t lot', y = V.ref t ∧ ∃ lot, ls[j]? = some lot ∧ lot' = lot ++ [x] ∧ Strs H' t lot')
      (fun i y H1 H2 s ⟨t, l', e1, l, e2, e3, e4⟩ => ⟨t, l', e1, l, e2, e3, s _ _ e4⟩) (fun D o hD => same_new hD) (fun D i H' o hD s => same_mut s hD) (fun D i H' hD hi s => SqL.of (s _ _ upd_same)) ?_ ?_
    · rintro D j y H4 H5 acc hD hj s4 hA ⟨rfl, hy⟩ Kt Kf kt kf
      obtain ⟨p, hp, rfl⟩ := map_at hy
      obtain ⟨lot, hlot, hst⟩ := paired_at hp1 hp
      have hlotl : lot.length ≤ 6 := by
        have h1 := ((hm1 lot).mp (at_mem hlot)).length_le
        rw [List.length_take] at h1
        omega
      refine ⟨rfl, tyes ?_⟩
      refine ⟨_, rfl, _, rfl, sz1, fun b nb => ?_⟩
      have sb := same_new (o := .lst [V.str x]) nb
      have hst5 := s4 _ _ (scc _ _ (hid_le _ _ hst))
      refine ⟨p, b, _, _, rfl, rfl, sb _ _ hst5, upd_same, by rw [List.length_map]; exact sz1000 (by simp only [List.length_cons, List.length_nil]; omega), fun t nt => ?_⟩
      have st := same_new (o := .lst (lot.map V.str ++ [V.str x])) nt
      have hff5 := s4 _ _ (scc _ _ hf1)
      refine kt rfl _ _ (s4.trans (sb.trans st)) (st _ _ (sb _ _ hA)) (same_hid (sb.trans st)) ⟨t, _, rfl, lot, hlot, rfl, hid_of (fun z => ?_) (by rw [upd_same, List.map_append]; rfl)⟩
      simp only [List.mem_cons, List.not_mem_nil, or_false] at z
      rcases z with z | z
      · exact ne_of_none (sb _ _ hA) nt z.symm
      · exact ne_of_none (sb _ _ hff5) nt z.symm
    · intro D H2 ys hD s2 hA hpp
      rw [List.length_map, List.filter_eq_self.mpr (fun _ _ => rfl), hpl] at hpp
      obtain ⟨es, rfl, hes⟩ := pairs_of hpp
      have hel := hes.length
      rw [List.length_range] at hel
      have sA := scc.trans s2
      have hf2 := sA _ _ hf1
      refine ⟨ff, D, _, _, rfl, rfl, hf2, hA, by rw [List.length_map, List.length_map]; exact sz1000 (by omega), ?_⟩
      have hes2 : ∀ e ∈ es, ∃ lot ∈ ls, e.2 = lot ++ [x] ∧ Strs (hid [ff] H2) e.1 e.2 := fun e he => by
        obtain ⟨j, _, lot, h1, h2, h3⟩ := paired_mem hes he
        exact ⟨lot, at_mem h1, h2, hid_sub (fun b hb => List.mem_cons_of_mem _ hb) _ _ h3⟩
      refine ⟨_, ps ++ es.map (·.1), ls ++ es.map (·.2), rfl, ?_, ?_, ?_, ?_, ?_, fun lot => ?_⟩
      · rw [hid_in (by simp)]
        exact Same.trans sH (same_hid sA)
      · rw [hid_in (by simp)]
        exact same_hid sA _ _ hr1
      · rw [upd_same, List.map_append, List.map_map]
        rfl
      · rw [hid_in (by simp)]
        exact paired_append (L2.Paired.mapP hp1 fun _ _ h => same_hid sA _ _ h) (paired_self fun e he => (hes2 e he).choose_spec.2.2)
      · rw [List.length_append, List.length_map, ← hel, Nat.pow_succ]
        omega
      · rw [List.mem_append, hm1, take_more hx, sub_snoc]
        constructor
        · rintro (h | h)
          · exact .inl h
          · obtain ⟨e, he, rfl⟩ := List.mem_map.mp h
            obtain ⟨lot, h1, h2, _⟩ := hes2 e he
            exact .inr ⟨lot, (hm1 lot).mp h1, h2⟩
        · rintro (h | ⟨l', h, rfl⟩)
          · exact .inl h
          · have h1 := (hm1 l').mpr h
            obtain ⟨j, hj, ej⟩ := List.mem_iff_getElem.mp h1
            have h2 : ls[j]? = some l' := by rw [← ej]; exact List.getElem?_eq_getElem hj
            obtain ⟨e, he, lot, h3, h4, _⟩ := paired_at hes (List.getElem?_range hj)
            rw [h2] at h3
            cases h3
            exact .inr (List.mem_map.mpr ⟨e, at_mem he, h4⟩)
  · rintro σ H1 ⟨v2, ps, ls, rfl, sH, hr1, hf1, hp1, hl1, hm1⟩
    rw [List.length_map] at hl1 hm1
    rw [List.take_length] at hm1
    have hpl := hp1.length
    have hl64 : ls.length ≤ 64 := Nat.le_trans hl1 (Nat.pow_le_pow_right (by decide) (show (srt xs).length ≤ 6 by omega))
    refine ⟨_, rfl, ff, rfl, ⟨_, SqL.of hf1⟩, ?_⟩
    refine lcd (walk_list (xs := ps.map V.ref)) (by rw [List.length_map]; omega) [] (fun j => !decide (ls.getD j [] = [])) (fun D i H' => Same H1 H') (fun j y H' => ∃ t lot, y = V.ref t ∧ ls[j]? = some lot ∧ ∃ p, H' t = some (.tup [.int lot.length, .ref p]) ∧ Strs H' p lot)
      (fun i y H1 H2 s ⟨t, l, e1, e2, p, e3, e4⟩ => ⟨t, l, e1, e2, p, s _ _ e3, s _ _ e4⟩) (fun D o hD => same_new hD) (fun D i H' o hD s => same_mut s hD) (fun D i H' hD hi s => SqL.of (s _ _ hf1)) ?_ ?_
    · rintro D j y H4 H5 acc hD hj s4 hA ⟨rfl, hy⟩ Kt Kf kt kf
      obtain ⟨p, hp, rfl⟩ := map_at hy
      obtain ⟨lot, hlot, hst⟩ := paired_at hp1 hp
      have hst5 := s4 _ _ (hid_le _ _ hst)
      have eg : ls.getD j [] = lot := by rw [List.getD_eq_getElem?_getD, hlot]; rfl
      rw [eg] at kt kf
      have sol : SO lot := fun z hz => so z (mem_srt.mp (((hm1 lot).mp (at_mem hlot)).subset hz))
      refine ⟨rfl, ?_⟩
      refine ⟨_, rfl, Nat.zero_le _, fun e ne => ?_⟩
      have se := same_new (o := .lst []) ne
      refine ⟨lD lot, lD [], dp_l (se _ _ hst5), dp_l (l := []) upd_same, lD_shaped sol, lD_shaped (fun x h => by cases h), _, rfl, ?_⟩
      rw [eqv_lD]
      by_cases cl : lot = []
      · refine iteBF (by rw [decide_eq_true cl]; rfl) ?_
        exact kf (by rw [decide_eq_true cl]; rfl) _ (s4.trans se) (se _ _ hA) (same_hid se)
      · refine iteB (by rw [decide_eq_false cl]; rfl) ?_
        refine ⟨_, rfl, p, _, rfl, .inl (SqL.of (se _ _ hst5)), _, rfl, sz2, fun t nt => ?_⟩
        rw [List.length_map]
        have st := same_new (o := .tup [V.int (lot.length : Nat), .ref p]) nt
        have hp6 := st _ _ (se _ _ hst5)
        refine kt (by rw [decide_eq_false cl]; rfl) _ _ (s4.trans (se.trans st)) (st _ _ (se _ _ hA)) (same_hid (se.trans st)) ⟨t, lot, rfl, hlot, p, hid_of (fun z => ?_) upd_same, hid_of (fun z => ?_) hp6⟩
        · simp only [List.mem_cons, List.not_mem_nil, or_false] at z
          exact ne_of_none (se _ _ hA) nt z.symm
        · simp only [List.mem_cons, List.not_mem_nil, or_false] at z
          exact ne_of_none (hid_le _ _ hst) hD z
    · intro D H2 ys hD s2 hA hpp
      rw [List.length_map, hpl] at hpp
      obtain ⟨es, rfl, hes⟩ := pairs_of (G := fun j t lot => ls[j]? = some lot ∧ ∃ p, hid [D] H2 t = some (.tup [.int lot.length, .ref p]) ∧ Strs (hid [D] H2) p lot) hpp
      have hel := hes.length
      have hfl := List.length_filter_le (fun j => !decide (ls.getD j [] = [])) (List.range ls.length)
      rw [List.length_range] at hfl
      have hes2 : ∀ e ∈ es, (e.2 ≠ [] ∧ e.2 ∈ ls) ∧ ∃ p, H2 e.1 = some (.tup [.int e.2.length, .ref p]) ∧ Strs H2 p e.2 := fun e he => by
        obtain ⟨j, hj, h1, p, h2, h3⟩ := paired_mem hes he
        have h4 := (List.mem_filter.mp hj).2
        have eg : ls.getD j [] = e.2 := by rw [List.getD_eq_getElem?_getD, h1]; rfl
        rw [eg] at h4
        exact ⟨⟨by simpa using h4, at_mem h1⟩, p, hid_le _ _ h2, hid_le _ _ h3⟩
      have hall : ∀ lot ∈ ls, lot ≠ [] → ∃ e ∈ es, e.2 = lot := fun lot hl hne => by
        obtain ⟨j, hj, ej⟩ := List.mem_iff_getElem.mp hl
        have h2 : ls[j]? = some lot := by rw [← ej]; exact List.getElem?_eq_getElem hj
        have eg : ls.getD j [] = lot := by rw [List.getD_eq_getElem?_getD, h2]; rfl
        obtain ⟨e, he, h3, _⟩ := paired_mem' hes (List.mem_filter.mpr ⟨List.mem_range.mpr hj, by rw [eg, decide_eq_false hne]; rfl⟩)
        rw [h2] at h3
        exact ⟨e, he, (Option.some.inj h3).symm⟩
      refine ⟨D, es, rfl, SqL.of hA, fun e he => ?_, by omega, fun es' D2 hp2 nD2 => ⟨D2, rfl, ⟨_, SqL.of upd_same⟩, ?_⟩⟩
      · obtain ⟨_, p, h1, h2⟩ := hes2 e he
        exact ⟨p, SqT.of h1, SqL.of h2⟩
      have s23 := same_new (o := .lst (es'.map fun e => V.ref e.1)) nD2
      have hel' := hp2.length_eq
      refine lcd (walk_list (xs := es'.map fun e => V.ref e.1)) (by rw [List.length_map]; omega) [] (fun _ => true) (fun D i H' => Same (upd H2 D2 (.lst (es'.map fun e => V.ref e.1))) H') (fun j y H' => ∃ t lot, y = V.ref t ∧ (∃ e, es'[j]? = some e ∧ lot = e.2) ∧ Strs H' t lot)
        (fun i y H1 H2 s ⟨t, l, e1, e2, e4⟩ => ⟨t, l, e1, e2, s _ _ e4⟩) (fun D o hD => same_new hD) (fun D i H' o hD s => same_mut s hD) (fun D i H' hD hi s => SqL.of (s _ _ upd_same)) ?_ ?_
      · rintro D3 j y H4 H5 acc hD3 hj s4 hA3 ⟨rfl, hy⟩ Kt Kf kt kf
        obtain ⟨e, he, rfl⟩ := map_at hy
        obtain ⟨_, p, h1, h2⟩ := hes2 e (hp2.mem_iff.mp (at_mem he))
        refine ⟨e.1, _, rfl, SqT.of (s4 _ _ (s23 _ _ h1)), rfl, _, _, rfl, _, _, rfl, rfl, rfl, tyes ?_⟩
        refine ⟨_, rfl, kt rfl _ _ s4 hA3 (.refl _) ⟨p, e.2, rfl, ⟨e, he, rfl⟩, hid_of (fun z => ?_) (s4 _ _ (s23 _ _ h2))⟩⟩
        simp only [List.mem_cons, List.not_mem_nil, or_false] at z
        exact ne_of_none (s23 _ _ h2) hD3 z
      · intro D3 H3 ys hD3 s3 hA3 hpp3
        rw [List.length_map, List.filter_eq_self.mpr (fun _ _ => rfl)] at hpp3
        obtain ⟨fs, rfl, hfs⟩ := pairs_of hpp3
        have hfl2 := hfs.length
        rw [List.length_range] at hfl2
        have sE : Same H1 H3 := (s2.trans s23).trans s3
        have sHH : Same H H1 := Same.trans sH hid_le
        refine k D3 (fs.map (·.2)) H3 (sHH.free ((s2.trans s23).free hD3)) (sHH.trans sE) ⟨fs.map (·.1), by rw [hA3, List.map_map]; rfl, paired_self fun e he => ?_⟩ (by rw [List.length_map]; omega) fun lot => ?_
        · obtain ⟨j, _, _, h⟩ := paired_mem hfs he
          exact hid_le _ _ h
        · rw [List.mem_map]
          constructor
          · rintro ⟨e, he, rfl⟩
            obtain ⟨j, _, ⟨e', h1, h2⟩, _⟩ := paired_mem hfs he
            obtain ⟨⟨h3, h4⟩, _⟩ := hes2 e' (hp2.mem_iff.mp (at_mem h1))
            rw [h2]
            exact ⟨h3, (hm1 _).mp h4⟩
          · rintro ⟨h1, h2⟩
            obtain ⟨e, he, h3⟩ := hall lot ((hm1 lot).mpr h2) h1
            obtain ⟨j, hj, ej⟩ := List.mem_iff_getElem.mp (hp2.mem_iff.mpr he)
            have h4 : es'[j]? = some e := by rw [← ej]; exact List.getElem?_eq_getElem hj
            obtain ⟨g, hg, ⟨e', h5, h6⟩, _⟩ := paired_at hfs (List.getElem?_range hj)
            rw [h4] at h5
            cases h5
            exact ⟨g, at_mem hg, h6.trans h3⟩)
end
end K9

/-! ## L18 -/
set_option maxHeartbeats 2000000
namespace K9
open PySem PySem.Spec PyProof.Rows L2
theorem paired_es {α β : Type} {R : α → β → Prop} : ∀ {as : List α} {bs : List β}, Paired R as bs → ∃ es : List (α × β), as = es.map (·.1) ∧ bs = es.map (·.2) ∧ ∀ e ∈ es, R e.1 e.2
  | _, _, .nil => ⟨[], rfl, rfl, fun _ h => by cases h⟩
  | _, _, @Paired.cons _ _ _ a b _ _ r t => by
    obtain ⟨es, h1, h2, h3⟩ := paired_es t
    refine ⟨(a, b) :: es, by rw [h1]; rfl, by rw [h2]; rfl, fun e he => ?_⟩
    rcases List.mem_cons.mp he with q | q
    · rw [q]; exact r
    · exact h3 e q
theorem LotsAt.len {H : Hp} {l : Addr} {ls : List (List Str)} (h : LotsAt H l ls) : ∃ xs : List V, H l = some (.lst xs) ∧ xs.length = ls.length := let ⟨ps, h1, h2⟩ := h; ⟨_, h1, by rw [List.length_map]; exact h2.length⟩
theorem LotsAt.dp {K : PySem.W.Frag} {H : Hp} {l : Addr} {ls : List (List Str)} (h : LotsAt H l ls) : Dp K H (.ref l) (.list (ls.map lD)) := by
  obtain ⟨ps, h1, h2⟩ := h
  exact .lst (SqL.of h1) (dpAll_of (f := lD) (L2.Paired.mapP h2 fun p m h => dp_l h))
section
variable {K : PySem.W.Frag} {g : TG} {tt : TT} {te : TE} {vs : List Nat} {σ : L2.St} {H1 : Hp} {Qd : Addr → Hp → Prop}
/-- [lot for lot in .. if ..] -/
theorem lots_lc {a : Addr} {ls : List (List Str)} (S : List Addr) (hS : ∀ b ∈ S, ∃ o, H1 b = some o) (hL : LotsAt (hid S H1) a ls) (hn : ls.length ≤ 1000) (P : List Str → Bool)
    (hs : ∀ (lot : List Str) (p : Addr) (H : Hp), lot ∈ ls → Same H1 H → Strs H p lot → ∀ (Kt : VK) (Kf : Hp → Prop), (P lot = true → ∀ H4, Same H H4 → Kt (.ref p) H4) → (P lot = false → ∀ H4, Same H H4 → Kf H4) →
      g (.ref p) (wipe σ vs) H fun σ2 H2 => wipe σ2 vs = wipe σ vs ∧ tt σ2 H2 fun b H3 => if b = true then te σ2 H3 Kt else Kf H3)
    (hd : ∀ D H, H1 D = none → Same H1 H → LotsAt (hid S H) D (ls.filter P) → Qd D H) :
    ∀ D, H1 D = none → ∃ W : Nat → Nat → Hp → Prop, (∃ m, W 0 m (upd H1 D (.lst []))) ∧ ∀ i m H, W i m H →
      ((Itl K a).stop i H ∧ Qd D H) ∨ ((Itl K a).go i H ∧ ∃ Nx : Hp → Prop, (∀ H', Nx H' → ∃ m', m' < m ∧ W (i + 1) m' H') ∧ ∀ x H', (Itl K a).yld i H x H' → g x (wipe σ vs) H' fun σ2 H2 => wipe σ2 vs = wipe σ vs ∧ tt σ2 H2 fun b H3 =>
        if b = true then te σ2 H3 fun y H4 => ∃ acc, H4 D = some (.lst acc) ∧ acc.length < sizeLine ∧ Nx (upd H4 D (.lst (acc ++ [y]))) else Nx H3) := by
  obtain ⟨ps, h1, h2⟩ := hL
  obtain ⟨es, rfl, rfl, h3⟩ := paired_es h2
  rw [List.length_map] at hn
  refine lcl es (fun e => V.ref e.1) (fun e => P e.2) (fun e => V.ref e.1) (SqL.of (by rw [(hid_at h1).2, List.map_map]; rfl)) hn ?_ ?_
  · intro i e H he s Kt Kf kt kf
    exact hs e.2 e.1 H (List.mem_map.mpr ⟨e, at_mem he, rfl⟩) s (s _ _ (hid_le _ _ (h3 e (at_mem he)))) Kt Kf kt kf
  · intro D H hD s hA
    refine hd D H hD s ⟨(es.filter fun e => P e.2).map (·.1), hid_of (nin_of hS (.refl _) hD) (by rw [hA, List.map_map]; rfl), ?_⟩
    have e1 : (es.map (·.2)).filter P = (es.filter fun e => P e.2).map (·.2) := by rw [List.filter_map]; rfl
    rw [e1]
    exact paired_self fun e he => same_hid s _ _ (h3 e (List.mem_filter.mp he).1)
end
theorem paired_last {α β : Type} {R : α → β → Prop} : ∀ {bs : List β} {b : β} {as : List α}, Paired R as (bs ++ [b]) → ∃ as0 a, as = as0 ++ [a] ∧ Paired R as0 bs ∧ R a b
  | [], b, _, h => by
    cases h with
    | cons r t => cases t; exact ⟨[], _, rfl, .nil, r⟩
  | c :: bs, b, _, h => by
    cases h with
    | cons r t =>
      obtain ⟨as0, a, e, h1, h2⟩ := paired_last t
      exact ⟨_ :: as0, a, by rw [e]; rfl, .cons r h1, h2⟩
theorem mapsP_head2 {H : Hp} {hs : List Str} {l : Addr} {ms : List Mp} (h : MapsP H hs l ms) (ne : ms ≠ []) : ∃ d ks ad r, H l = some (.lst (.ref d :: r)) ∧ H d = some (.dK (mkv ks ad)) ∧ ks.Perm hs := by
  obtain ⟨ds, h1, h2⟩ := h
  cases h2 with
  | nil => exact absurd rfl ne
  | cons r t =>
    obtain ⟨ks, ad, p, e, _⟩ := r
    exact ⟨_, _, _, _, h1, e, p⟩
/-- late: the lists of lots that can be kept so long -/
def IsLate (hs : List Str) (ms : List Mp) (k : Nat) (ls : List (List Str)) : Prop := ls.length ≤ 64 ∧ ∀ lot, lot ∈ ls ↔ lot ≠ [] ∧ lot.Sublist hs ∧ KM.kp hs ms k lot = true
def LatesAt (H : Hp) (l : Addr) (Ls : List (List (List Str))) : Prop := ∃ qs : List Addr, H l = some (.lst (qs.map V.ref)) ∧ Paired (fun q ls => LotsAt H q ls) qs Ls
theorem LatesAt.mono {H H' : Hp} {l : Addr} {Ls : List (List (List Str))} (s : Same H H') (h : LatesAt H l Ls) : LatesAt H' l Ls := let ⟨ps, h1, h2⟩ := h; ⟨ps, s _ _ h1, L2.Paired.mapP h2 fun _ _ h => h.mono s⟩
section
variable {P : Program} {w : World} {K : PySem.W.Frag} {mg : Str → Option Value} {base : Heap}
theorem sc_l_late_lots : FnScope ["_law_maps_here", "_law_rounds", "_law_found", "_law_k", "_law_lot", "_law_one"] ["_law_maps_here", "_law_rounds"] (defScope s_l_late_lots) := ⟨rfl, rfl, rfl, by decide +kernel, rfl, by decide +kernel, by decide +kernel⟩
def spLateLots : Sp := fun vs H Q _ => ∃ lm hs ms n, ∃ W : Wd hs ms, vs = [.ref lm, .int ((n : Nat) : Int)] ∧ MapsP H hs lm ms ∧ n ≤ 20 ∧ ∀ r Ls H', H r = none → Same H H' → LatesAt H' r Ls → Ls.length = n + 1 → (∀ k ls, Ls[k]? = some ls → IsLate hs ms k ls) → Q (.ref r) H'
theorem ok_l_late_lots (T : Tx K mg) : Ok P w K mg base CX0 2 "_law_late_lots" ["_law_maps_here", "_law_rounds"] spLateLots :=
  ok_of T d_l_late_lots (by unfold fn; simp) rfl rfl rfl rfl rfl rfl (by decide +kernel) sc_l_late_lots (fun _ _ _ _ _ _ us hl => match us, hl with | [_, _], _ => rfl) (fun vs H Q E ⟨_, _, _, _, _, h, _⟩ => by subst h; rfl) (fun f cdv A outer s H vs Q E hr h => by
  obtain ⟨lm, hs, ms, n, W, rfl, hm, hn, k⟩ := h
  refine ⟨_, PSs.nox (pss_cons (ps_set (i := 2) sc_l_late_lots.nd rfl (by first | exact Or.inl rfl | exact Or.inr rfl) (pe_lst (pa_cons (pe_lc (own := [("_law_lot", 4)])  rfl sc_l_late_lots.nd (pi_listk K (pe_c (ok_l_m_lots T) (hr.mono (by first | decide | omega)) pass0 (pa_cons (pe_callTy (call_listD rfl) (by rfl) (T.Z "list") bt_list (pa_cons (pe_ix (ix_listk K) (pv 0) pe_int (fun _ _ => rfl)) pa_nil)) pa_nil))) (blkOk_by (by kernel_rfl)) (fun _ _ _ _ _ => (pg_name (i := 4) sc_l_late_lots.nd rfl (by first | exact Or.inl rfl | exact Or.inr rfl))) (fun _ _ _ _ _ => (pts_one (pt_cmpR op_lt (pe_callB (call_len_seqk K) (by rfl) (T.Z "len") bt_len (pa_cons (pv 4) pa_nil)) (pe_callB call_lenD (by rfl) (T.Z "len") bt_len (pa_cons (pe_ix (ix_listk K) (pv 0) pe_int (fun _ _ => rfl)) pa_nil)) (nomark _)))) (fun _ _ _ _ _ => (pv 4))) pa_nil)))
    (pss_cons (ps_for PassesOwn.never rfl (pi_range1 rfl (T.Z "range") (pa_cons (pv 1) pa_nil)) (pg_name (i := 3) sc_l_late_lots.nd rfl (by first | exact Or.inl rfl | exact Or.inr rfl))
      (pss_one (ps_expr (pe_bmk K PySem.F.plainAttrs_list PySem.F.slot_list_append PySem.F.type_list_append mt_append (pv 2) (pa_cons (pe_lc (own := [("_law_lot", 4)])  rfl sc_l_late_lots.nd (pi_listk K (pe_ix (ix_listk K) (pv 2) pe_int (fun _ _ => rfl))) (blkOk_by (by kernel_rfl)) (fun _ _ _ _ _ => (pg_name (i := 4) sc_l_late_lots.nd rfl (by first | exact Or.inl rfl | exact Or.inr rfl))) (fun _ _ _ _ _ => (pts_one (pt_val (pe_callB (cr_anyk K rfl) (by rfl) (T.Z "any") bt_any (pa_cons (pe_lc (own := [("_law_one", 5)])  rfl sc_l_late_lots.nd (pi_listk K (pv 0)) (blkOk_by (by kernel_rfl)) (fun _ _ _ _ _ => (pg_name (i := 5) sc_l_late_lots.nd rfl (by first | exact Or.inl rfl | exact Or.inr rfl))) (fun _ _ _ _ _ => pts_nil) (fun _ _ _ _ _ => (pe_cmpR (op_inDk K hr.units65) (pe_c (ok_l_m_behind T) (hr.mono (by first | decide | omega)) pass0 (pa_cons (pv 5) (pa_cons (pv 4) pa_nil))) (pe_ix (ix_listk K) (pv 2) (pe_un un_neg pe_int) (fun _ _ => rfl)) (by rfl)))) pa_nil))))) (fun _ _ _ _ _ => (pv 4))) pa_nil)))))
    (pss_one (ps_ret (pv 2))))), ?_⟩
  obtain ⟨d0, ks, ad, r0, e1, e2, hp⟩ := mapsP_head2 hm W.G.ne
  have h4 := W.h4
  have hkl := hp.length_eq
  have hsrt : srt ks = hs := (srt_congr hp).trans W.so
  have hms5 := W.m5
  refine ⟨_, rfl, lm, _, 0, .ref d0, rfl, rfl, SqL.of e1, atI_nat (j := 0) rfl, d0, _, rfl, .of e2, fun a na => ?_⟩
  have eka : (mkv ks ad).map (fun kv => kV kv.1) = ks.map V.str := by unfold mkv; rw [List.map_map]; rfl
  rw [eka]
  have sa := same_new (o := .lst (ks.map V.str)) na
  refine ⟨a, ks, rfl, upd_same, hp.nodup_iff.mpr W.G.nd, by omega, fun x hx => W.ok x (hp.mem_iff.mp hx), fun r ls H1 nr s1 hL hll hmem => ⟨r, rfl, ?_, ?_⟩⟩
  · obtain ⟨xs, h1, _⟩ := hL.len
    exact ⟨_, SqL.of h1⟩
  rw [hsrt] at hmem
  refine lots_lc [] (fun b hb => by cases hb) (hL.mono fun b o e => hid_of (by simp) e) (by omega) (fun lot => decide (lot.length < hs.length)) ?_ ?_
  · intro lot p H2 hlot s2 hst Kt Kf kt kf
    have e1' := s2 _ _ (s1 _ _ (sa _ _ e1))
    have e2' := s2 _ _ (s1 _ _ (sa _ _ e2))
    refine ⟨rfl, ?_⟩
    refine ⟨_, rfl, p, _, rfl, .inl (SqL.of hst), _, rfl, lm, _, 0, .ref d0, rfl, rfl, SqL.of e1', atI_nat (j := 0) rfl, d0, _, rfl, e2', _, _, rfl, rfl, _, rfl, ?_⟩
    rw [List.length_map, mkv_len, hkl]
    by_cases c : lot.length < hs.length
    · exact iteB (decide_eq_true (by omega)) ⟨_, rfl, kt (decide_eq_true c) _ (.refl _)⟩
    · exact iteBF (decide_eq_false (by omega)) (kf (decide_eq_false c) _ (.refl _))
  intro D H2 hD s2 hD2
  have hD2' := hD2.mono hid_le
  refine ⟨sz1, fun ff nff => ?_⟩
  have s02 := (sa.trans s1).trans s2
  have sf := same_new (o := .lst [.ref D]) nff
  have nfH : H ff = none := s02.free nff
  have hid1 : ∀ {H' : Hp}, Same H' (upd H2 ff (.lst [.ref D])) → (∀ b o, H' b = some o → H2 b = some o) → Same H' (hid [ff] (upd H2 ff (.lst [.ref D]))) := fun s n b o e => hid_of (by simpa using ne_of_none (n b o e) nff) (s _ _ e)
  have late0 : IsLate hs ms 0 (ls.filter fun lot => decide (lot.length < hs.length)) := by
    refine ⟨Nat.le_trans (List.length_filter_le _ _) hll, fun lot => ?_⟩
    rw [List.mem_filter, hmem]
    exact ⟨fun ⟨⟨h1, h2⟩, h3⟩ => ⟨h1, h2, h3⟩, fun ⟨h1, h2, h3⟩ => ⟨⟨h1, h2⟩, h3⟩⟩
  refine ⟨_, rfl, _, rfl, by omega, by omega, ?_⟩
  rw [Int.toNat_natCast]
  refine for_it (walk_range (lo := 0) (n := n)) (fun i σ H' => ∃ v3 qs Ls, σ = [some (.ref lm), some (.int (n : Int)), some (.ref ff), v3, none, none] ∧ Same H (hid [ff] H') ∧ H' ff = some (.lst (qs.map V.ref)) ∧ Paired (fun q ls => LotsAt (hid [ff] H') q ls) qs Ls ∧ Ls.length = i + 1 ∧ ∀ k ls, Ls[k]? = some ls → IsLate hs ms k ls)
    ⟨none, [D], [_], rfl, hid1 (s02.trans sf) (fun b o e => s02 _ _ e), upd_same, .cons (hD2'.mono (hid1 sf fun b o e => e)) .nil, rfl, fun k ls e => ?_⟩ (fun _ _ _ _ _ => trivial) ?_ ?_
  · cases k with
    | zero => cases e; exact late0
    | succ k => simp at e
  · rintro i x σ H3 H4 hi ⟨v3, qs, Ls, rfl, sH, hf3, hp3, hl3, late3⟩ ⟨rfl, rfl⟩
    obtain ⟨Ls0, Li, rfl⟩ : ∃ Ls0 Li, Ls = Ls0 ++ [Li] := ⟨_, _, (List.dropLast_concat_getLast (l := Ls) (fun e => by rw [e] at hl3; cases hl3)).symm⟩
    obtain ⟨qs0, qi, rfl, hp0, hqi⟩ := paired_last hp3
    have hl0 : Ls0.length = i := by rw [List.length_append] at hl3; exact Nat.succ.inj hl3
    have lateI : IsLate hs ms i Li := late3 i Li (by rw [← hl0]; simp)
    obtain ⟨q0, L0, hq0, hL0, hpq0⟩ : ∃ q0 L0, (qs0 ++ [qi])[0]? = some q0 ∧ (Ls0 ++ [Li])[0]? = some L0 ∧ LotsAt (hid [ff] H4) q0 L0 := by
      have h0 : (Ls0 ++ [Li])[0]? = some ((Ls0 ++ [Li])[0]'(by simp)) := List.getElem?_eq_getElem _
      obtain ⟨q, h1, h2⟩ := paired_at' hp3 h0
      exact ⟨q, _, h1, h0, h2⟩
    have lateZ := late3 0 L0 hL0
    have hql := hp3.length
    refine ⟨_, rfl, .inl ⟨rfl, _, SqL.of hf3⟩, _, rfl, ff, _, 0, .ref q0, rfl, rfl, SqL.of hf3, atI_nat (j := 0) (map_get hq0), q0, rfl, ?_, ?_⟩
    · obtain ⟨xs, h1, _⟩ := hpq0.len
      exact ⟨_, SqL.of (hid_le _ _ h1)⟩
    refine lots_lc [ff] (fun b hb => by rw [List.mem_singleton.mp hb]; exact ⟨_, hf3⟩) hpq0 (by have := lateZ.1; omega) (fun lot => ms.any fun m => KM.kp hs ms i (KM.beh hs m lot)) ?_ ?_
    · intro lot p H5 hlot s5 hst Kt Kf kt kf
      obtain ⟨hne, hsub, hkp0⟩ := (lateZ.2 lot).mp hlot
      have hm5 : MapsP H5 hs lm ms := (hm.mono sH).mono (Same.trans hid_le s5)
      obtain ⟨ds, hlm, hds⟩ := hm5
      obtain ⟨es, rfl, ees, hes⟩ := paired_es hds
      have hel : es.length = ms.length := by rw [ees, List.length_map]
      refine ⟨rfl, ?_⟩
      refine ⟨_, rfl, lm, rfl, ⟨_, SqL.of hlm⟩, ?_⟩
      refine lcl es (fun e => V.ref e.1) (fun _ => true) (fun e => .bl (decide (KM.beh hs e.2 lot ∈ Li))) (SqL.of (by rw [hlm, List.map_map]; rfl)) (by omega) ?_ ?_
      · intro j e H6 he s6 Kt2 Kf2 kt2 kf2
        have hem : e.2 ∈ ms := by rw [ees]; exact List.mem_map.mpr ⟨e, at_mem he, rfl⟩
        refine ⟨rfl, tyes ?_⟩
        refine ⟨_, rfl, _, rfl, e.1, p, hs, e.2, lot, rfl, (hes e (at_mem he)).mono s6, by omega, W.len e.2 hem, .inr (s6 _ _ hst), fun b H7 nb s7 hb => ?_⟩
        rw [W.so] at hb
        have hf7 := s7 _ _ (s6 _ _ (s5 _ _ hf3))
        rw [List.map_append] at hf7
        refine ⟨_, rfl, 1, rfl, ff, _, _, .ref qi, rfl, rfl, SqL.of hf7, atI_last _ _, ?_⟩
        refine ⟨lD (KM.beh hs e.2 lot), _, dp_l hb, (hqi.mono (Same.trans hid_le ((s5.trans s6).trans s7))).dp, lD_shaped (fun z hz => W.ok z ((KM.beh_sub ..).subset hz)), ll_shaped (fun z hz => lD_lay fun y hy => W.ok y (((lateI.2 z).mp hz).2.1.subset hy)) lD_dep, ?_⟩
        rw [any_lD]
        exact kt2 rfl _ s7
      · intro D2 H6 hD2 s6 hA
        refine ⟨D2, es.map fun e => decide (KM.beh hs e.2 lot ∈ Li), rfl, SqL.of (by rw [hA, List.filter_eq_self.mpr (fun _ _ => rfl), List.map_map]; rfl), _, rfl, ?_⟩
        have eb : (es.map fun e => decide (KM.beh hs e.2 lot ∈ Li)).any id = ms.any fun m => KM.kp hs ms i (KM.beh hs m lot) := by
          rw [ees, List.any_map, List.any_map, Bool.eq_iff_iff, List.any_eq_true, List.any_eq_true]
          have key : ∀ e ∈ es, (decide (KM.beh hs e.2 lot ∈ Li) = true ↔ KM.kp hs (es.map (·.2)) i (KM.beh hs e.2 lot) = true) := fun e he => by
            have hem : e.2 ∈ ms := by rw [ees]; exact List.mem_map.mpr ⟨e, he, rfl⟩
            rw [decide_eq_true_eq, lateI.2, ← ees]
            have hbn : KM.beh hs e.2 lot ≠ [] := fun z => by
              have := (KM.grow W.G hem hsub).length_le
              rw [z] at this
              have h1 := List.length_pos_iff.mpr hne
              have h0 : ([] : List Str).length = 0 := rfl
              omega
            exact ⟨fun h => h.2.2, fun h => ⟨hbn, KM.beh_sub .., h⟩⟩
          exact ⟨fun ⟨e, h1, h2⟩ => ⟨e, h1, (key e h1).mp h2⟩, fun ⟨e, h1, h2⟩ => ⟨e, h1, (key e h1).mpr h2⟩⟩
        rw [eb]
        cases ec : ms.any fun m => KM.kp hs ms i (KM.beh hs m lot) with
        | true => exact iteT (B := Kf H6) ⟨_, rfl, kt ec _ s6⟩
        | false => exact iteF (kf ec _ s6)
    · intro D2 H5 hD2 s5 hL2
      have hf5 := s5 _ _ hf3
      have nDf : D2 ≠ ff := (ne_of_none hf3 hD2).symm
      refine ⟨ff, _, _, rfl, rfl, hf5, by rw [List.length_map]; exact small1000 (by omega), ?_⟩
      refine ⟨_, (qs0 ++ [qi]) ++ [D2], (Ls0 ++ [Li]) ++ [L0.filter fun lot => ms.any fun m => KM.kp hs ms i (KM.beh hs m lot)], rfl, ?_, ?_, ?_, ?_, fun kk ls' e => ?_⟩
      · rw [hid_in (by simp)]
        exact Same.trans sH (same_hid s5)
      · rw [upd_same, List.map_append (l₁ := qs0 ++ [qi])]
        rfl
      · rw [hid_in (by simp)]
        exact Paired.snoc (L2.Paired.mapP hp3 fun _ _ h => h.mono (same_hid s5)) hL2
      · rw [List.length_append, hl3]
        rfl
      · rw [List.getElem?_append] at e
        by_cases ck : kk < (Ls0 ++ [Li]).length
        · rw [if_pos ck] at e
          exact late3 kk ls' e
        · rw [if_neg ck, hl3] at e
          have ek : kk = i + 1 := by
            have := at_lt e
            simp only [List.length_cons, List.length_nil] at this
            omega
          subst ek
          rw [Nat.sub_self] at e
          cases e
          refine ⟨Nat.le_trans (List.length_filter_le _ _) lateZ.1, fun lot => ?_⟩
          rw [List.mem_filter, lateZ.2]
          have ekp : KM.kp hs ms (i + 1) lot = (KM.kp hs ms 0 lot && ms.any fun m => KM.kp hs ms i (KM.beh hs m lot)) := rfl
          rw [ekp, Bool.and_eq_true]
          exact ⟨fun ⟨⟨h1, h2, h3⟩, h4⟩ => ⟨h1, h2, h3, h4⟩, fun ⟨h1, h2, h3, h4⟩ => ⟨⟨h1, h2, h3⟩, h4⟩⟩
  · rintro σ H3 ⟨v3, qs, Ls, rfl, sH, hf3, hp3, hl3, late3⟩
    exact ⟨_, rfl, k ff Ls H3 nfH (Same.trans sH hid_le) ⟨qs, hf3, L2.Paired.mapP hp3 fun _ _ h => h.mono hid_le⟩ hl3 late3⟩)
end
end K9

/-! ## L19 -/
set_option maxHeartbeats 2000000
namespace K9
open PySem PySem.Spec PyProof.Rows L2
section
variable {P : Program} {w : World} {K : PySem.W.Frag} {mg : Str → Option Value} {base : Heap}
/-- the comprehension [_law_m_behind(one, lot) for one in maps] -/
theorem behind_lc {hs : List Str} {ms : List Mp} (W : Wd hs ms) {H1 : Hp} {σ : L2.St} {lm t : Addr} {lot : List Str} {i0 j0 : Nat} (hm : MapsP H1 hs lm ms) (ht : Strs H1 t lot) (e0 : σ[j0]? = some (some (.ref lm)))
    (e1 : ∀ v, ((wipe σ [i0]).set i0 (some v))[i0]? = some (some v)) {jt : Nat} (e2 : ∀ v, ((wipe σ [i0]).set i0 (some v))[jt]? = some (some (.ref t)))
    (S : List Addr) (hS : ∀ b ∈ S, ∃ o, H1 b = some o)
    {Q : VK} (q : ∀ D H, H1 D = none → Same H1 H → LotsAt (hid S H) D (ms.map fun m => KM.beh hs m lot) → Q (.ref D) H) :
    tLc (iList K (tVar j0)) (gName i0) tYes (tCall spBehind [] E0 (tCons (tVar i0) (tCons (tVar jt) tNil))) [i0] σ H1 Q := by
  obtain ⟨ds, h1, h2⟩ := hm
  have hlen := h2.length
  have hm5 := W.m5
  refine ⟨_, e0, lm, rfl, ⟨_, SqL.of h1⟩, ?_⟩
  refine lcd (walk_list (xs := ds.map V.ref)) (by rw [List.length_map]; omega) S (fun _ => true) (fun D i H' => Same H1 H') (fun i y H' => ∃ m p, ms[i]? = some m ∧ y = .ref p ∧ Strs H' p (KM.beh hs m lot))
    (fun i y H1 H2 s ⟨m, d, e1, e2, e3⟩ => ⟨m, d, e1, e2, s _ _ e3⟩) (fun D o hD => same_new hD) (fun D i H' o hD s => same_mut s hD) (fun D i H' hD hi s => SqL.of (s _ _ h1)) ?_ ?_
  · rintro D i y H2 H3 acc hD hi s1 hA ⟨rfl, hy⟩ Kt Kf kt kf
    obtain ⟨d, hd, rfl⟩ := map_at hy
    obtain ⟨m, hmi, hP⟩ := paired_at h2 hd
    refine ⟨wipe1, tyes ?_⟩
    refine ⟨_, e1 _, _, e2 _, d, t, hs, m, lot, rfl, hP.mono s1, by have := W.h4; omega, W.len m (at_mem hmi), .inr (s1 _ _ ht), fun p H4 np s4 hp => ?_⟩
    rw [W.so] at hp
    refine kt rfl _ _ (s1.trans s4) (s4 _ _ hA) (same_hid s4) ⟨m, p, hmi, rfl, hid_of ?_ hp⟩
    intro z
    rcases List.mem_cons.mp z with e | e
    · exact ne_of_none hA np e.symm
    · obtain ⟨o, ho⟩ := hS p e
      exact ne_of_none (s1 _ _ ho) np rfl
  · intro D H2 ys hD s1 hA hp
    rw [List.length_map, hlen] at hp
    obtain ⟨ps, e1, e2⟩ := paired_range0 (G := fun p m => Strs (hid (D :: S) H2) p (KM.beh hs m lot)) hp fun i y m hi ⟨m', d, h5, h6, h7⟩ => ⟨d, h6, by rw [hi] at h5; cases h5; exact h7⟩
    refine q D H2 hD s1 ⟨ps, hid_of (nin_of hS (.refl _) hD) (by rw [hA, e1]), ?_⟩
    have gen : ∀ {l : List Addr} {l2 : List Mp}, Paired (fun p m => Strs (hid (D :: S) H2) p (KM.beh hs m lot)) l l2 → Paired (fun p lot => Strs (hid S H2) p lot) l (l2.map fun m => KM.beh hs m lot) := by
      intro l l2 h
      induction h with
      | nil => exact .nil
      | cons r _ ih => exact .cons (hid_sub (fun b hb => List.mem_cons_of_mem _ hb) _ _ r) ih
    exact gen e2
theorem sc_l_first_late : FnScope ["_law_maps_here", "_law_hand", "_law_rounds", "_law_late", "_law_lot", "_law_found", "_law_k", "_law_later", "_law_one", "_law_index", "_law_some"] ["_law_maps_here", "_law_hand", "_law_rounds", "_law_late"] (defScope s_l_first_late) := ⟨rfl, rfl, rfl, by decide +kernel, rfl, by decide +kernel, by decide +kernel⟩
def spFirstLate : Sp := fun vs H Q _ => ∃ lm z r la hs ms Ls, ∃ W : Wd hs ms, vs = [.ref lm, .str z, .int ((r : Nat) : Int), .ref la] ∧ MapsP H hs lm ms ∧ LatesAt H la Ls ∧ r < Ls.length ∧ r ≤ 20 ∧ (∀ k ls, Ls[k]? = some ls → IsLate hs ms k ls) ∧ z ∈ hs ∧
  (KM.kp hs ms r [z] = false → ∀ H', Same H H' → Q .non H') ∧ (KM.kp hs ms r [z] = true → ∀ p H', H p = none → Same H H' → H' p = some (.lst (rowV (KM.gr hs ms r [z]))) → Q (.ref p) H')
theorem ok_l_first_late (T : Tx K mg) : Ok P w K mg base CX0 2 "_law_first_late" ["_law_maps_here", "_law_hand", "_law_rounds", "_law_late"] spFirstLate :=
  ok_of T d_l_first_late (by unfold fn; simp) rfl rfl rfl rfl rfl rfl (by decide +kernel) sc_l_first_late (fun _ _ _ _ _ _ us hl => match us, hl with | [_, _, _, _], _ => rfl) (fun vs H Q E ⟨_, _, _, _, _, _, _, _, h, _⟩ => by subst h; rfl) (fun f cdv A outer s H vs Q E hr h => by
  obtain ⟨lm, z, r, la, hs, ms, Ls, W, rfl, hm, hla, hrl, hr20, late, hz, k1, k2⟩ := h
  refine ⟨_, PSs.nox (pss_cons (ps_asg (pe_tup (pa_cons (pe_lst (pa_cons (pv 1) pa_nil)) (pa_cons (pe_lst pa_nil) pa_nil))) (pg_tupk K (n := 2) rfl (pgs_cons (pg_name (i := 4) sc_l_first_late.nd rfl (by first | exact Or.inl rfl | exact Or.inr rfl)) (pgs_cons (pg_name (i := 5) sc_l_first_late.nd rfl (by first | exact Or.inl rfl | exact Or.inr rfl)) pgs_nil))))
    (pss_cons (ps_if (pt_cmpR (op_notInDk K hr.units65) (pv 4) (pe_ix (ix_listk K) (pv 3) (pv 2) (fun _ _ => rfl)) (by rfl)) (pss_one (ps_ret pe_non)) pss_nil)
    (pss_cons (ps_for PassesOwn.never rfl (pi_range1 rfl (T.Z "range") (pa_cons (pv 2) pa_nil)) (pg_name (i := 6) sc_l_first_late.nd rfl (by first | exact Or.inl rfl | exact Or.inr rfl))
      (pss_cons (ps_setLc (i := 7) (own := [("_law_one", 8)])  rfl sc_l_first_late.nd rfl rfl (sw_true rfl rfl rfl (by decide +kernel)) (pi_listk K (pv 0)) (blkOk_by (by kernel_rfl)) (fun _ _ _ _ _ => (pg_name (i := 8) sc_l_first_late.nd rfl (by first | exact Or.inl rfl | exact Or.inr rfl))) (fun _ _ _ _ _ => pts_nil) (fun _ _ _ _ _ => (pe_c (ok_l_m_behind T) (hr.mono (by first | decide | omega)) pass0 (pa_cons (pv 8) (pa_cons (pv 4) pa_nil)))))
      (pss_cons (ps_expr (pe_bmk K PySem.F.plainAttrs_list PySem.F.slot_list_append PySem.F.type_list_append mt_append (pv 5) (pa_cons (pe_ix (ix_listk K) (pe_lc (own := [("_law_index", 9), ("_law_some", 10)])  rfl sc_l_first_late.nd (pi_enumk K rfl (T.Z "enumerate") (pa_cons (pv 7) pa_nil)) (blkOk_by (by kernel_rfl)) (fun _ _ _ _ _ => (pg_tupk K (n := 2) rfl (pgs_cons (pg_name (i := 9) sc_l_first_late.nd rfl (by first | exact Or.inl rfl | exact Or.inr rfl)) (pgs_cons (pg_name (i := 10) sc_l_first_late.nd rfl (by first | exact Or.inl rfl | exact Or.inr rfl)) pgs_nil)))) (fun _ _ _ _ _ => (pts_one (pt_cmpR (op_inDk K hr.units65) (pv 10) (pe_ix (ix_listk K) (pv 3) (pe_op op_sub (pe_op op_sub (pv 2) (pv 6)) pe_int) (fun _ _ => rfl)) (by rfl)))) (fun _ _ _ _ _ => (pv 9))) pe_int (fun _ _ => rfl)) pa_nil)))
      (pss_one (ps_set (i := 4) sc_l_first_late.nd rfl (by first | exact Or.inl rfl | exact Or.inr rfl) (pe_ix (ix_listk K) (pv 7) (pe_ix (ix_listk K) (pv 5) (pe_un un_neg pe_int) (fun _ _ => rfl)) (fun _ _ => rfl)))))))
    (pss_one (ps_ret (pv 5)))))), ?_⟩
  refine ⟨_, rfl, sz1, fun lt nlt => ⟨Nat.zero_le _, fun fo nfo => ⟨sz2, fun tt ntt => ?_⟩⟩⟩
  have slt := same_new (o := .lst [V.str z]) nlt
  have sfo := same_new (o := .lst []) nfo
  have stt := same_new (o := .tup [V.ref lt, V.ref fo]) ntt
  have nfH : H fo = none := slt.free nfo
  refine ⟨tt, _, rfl, SqT.of upd_same, rfl, _, _, rfl, _, _, rfl, rfl, ?_⟩
  have h4 := W.h4
  have hms5 := W.m5
  have hzl : [z].Sublist hs := List.singleton_sublist.mpr hz
  generalize hH1 : upd (upd (upd H lt (.lst [V.str z])) fo (.lst [])) tt (.tup [V.ref lt, V.ref fo]) = H1 at stt
  have s01 : Same H H1 := (slt.trans sfo).trans stt
  have hlt1 : Strs H1 lt [z] := stt _ _ (sfo _ _ upd_same)
  have hfo1 : H1 fo = some (.lst (rowV [])) := stt _ _ upd_same
  have sH1 : Same H (hid [fo] H1) := fun b o e => hid_of (by simpa using ne_of_none e nfH) (s01 _ _ e)
  obtain ⟨qs, hqs, hqL⟩ := hla
  have hql := hqL.length
  obtain ⟨Lr, hLr⟩ : ∃ L, Ls[r]? = some L := ⟨_, List.getElem?_eq_getElem hrl⟩
  obtain ⟨qr, hqr, hLo⟩ := paired_at' hqL hLr
  have lateR := late r Lr hLr
  have shL : ∀ {k : Nat} {L : List (List Str)}, Ls[k]? = some L → SeqAt.shaped (.list (L.map lD)) = true := fun {k L} e => ll_shaped (fun x hx => lD_lay fun y hy => W.ok y ((((late k L e).2 x).mp hx).2.1.subset hy)) lD_dep
  refine ⟨_, rfl, _, rfl, _, rfl, la, _, _, .ref qr, rfl, rfl, SqL.of (s01 _ _ hqs), atI_nat (map_get hqr), lD [z], _, dp_l hlt1, (hLo.mono s01).dp, lD_shaped (fun x hx => W.ok x (hzl.subset hx)), shL hLr, _, rfl, ?_⟩
  rw [any_lD]
  have hin : [z] ∈ Lr ↔ KM.kp hs ms r [z] = true := by
    rw [lateR.2]
    exact ⟨fun h => h.2.2, fun h => ⟨by simp, hzl, h⟩⟩
  cases ek : KM.kp hs ms r [z] with
  | false =>
    refine iteB (by rw [decide_eq_false (fun h => by rw [hin.mp h] at ek; cases ek)]; rfl) ?_
    exact k1 ek _ s01
  | true =>
    refine iteBF (by rw [decide_eq_true (hin.mpr ek)]; rfl) ?_
    refine ⟨_, rfl, _, rfl, by omega, by omega, ?_⟩
    rw [Int.toNat_natCast]
    refine for_it (walk_range (lo := 0) (n := r)) (fun j σ H' => ∃ lt lot pre v6 v7, σ = [some (.ref lm), some (.str z), some (.int (r : Int)), some (.ref la), some (.ref lt), some (.ref fo), v6, v7, none, none, none] ∧ Same H (hid [fo] H') ∧ Strs H' lt lot ∧ lot ≠ [] ∧ lot.Sublist hs ∧ KM.kp hs ms (r - j) lot = true ∧
      KM.gr hs ms r [z] = pre ++ KM.gr hs ms (r - j) lot ∧ pre.length = j ∧ H' fo = some (.lst (rowV pre)))
      ⟨lt, [z], [], none, none, rfl, sH1, hlt1, by simp, hzl, ek, rfl, rfl, hfo1⟩ (fun _ _ _ _ _ => trivial) ?_ ?_
    · rintro j x σ H2 H3 hj ⟨lt, lot, pre, v6, v7, rfl, sH, hlt, hln, hll, hkp, hgr, hpre, hfo⟩ ⟨rfl, rfl⟩
      obtain ⟨k, hk1⟩ : ∃ k, r - j = k + 1 := ⟨r - j - 1, by omega⟩
      rw [hk1] at hkp hgr
      obtain ⟨_, hex⟩ := KM.kp_succ.mp hkp
      obtain ⟨hix, hhead⟩ := first_ix hex
      have enth : ∀ i, (h : i < ms.length) → KM.nth ms i = ms[i] := fun i h => by unfold KM.nth; simp [h]
      have hrpl : (rowV pre).length = j := by unfold rowV; rw [List.length_map, hpre]
      have sH3 : Same H H3 := Same.trans sH hid_le
      dsimp only [tSeq, tAsg, gName]
      refine behind_lc (i0 := 8) (j0 := 0) (jt := 4) W (hm.mono sH3) hlt ?_ ?_ ?_ [fo] (fun b hb => by rw [List.mem_singleton.mp hb]; exact ⟨_, hfo⟩) fun ld H4 nld s4 hld => ?_
      · rfl
      · exact fun _ => rfl
      · exact fun _ => rfl
      obtain ⟨ps, hp1', hp2⟩ := hld
      have hp1 := hid_le _ _ hp1'
      have hpl := hp2.length
      rw [List.length_map] at hpl
      have hfo4 := s4 _ _ hfo
      obtain ⟨Lk, hLk⟩ : ∃ L, Ls[k]? = some L := ⟨_, List.getElem?_eq_getElem (by omega)⟩
      obtain ⟨qk, hqk, hLok⟩ := paired_at' hqL hLk
      have lateK := late k Lk hLk
      have s04 := sH3.trans s4
      refine ⟨_, rfl, .inl ⟨rfl, _, SqL.of hfo4⟩, _, rfl, ld, _, rfl, SqL.of hp1, ?_⟩
      refine lcd (walk_enum (xs := ps.map V.ref)) (by rw [List.length_map]; omega) [] (fun i => KM.kp hs ms k (KM.beh hs (KM.nth ms i) lot)) (fun D i H' => Same H4 H') (fun i y H' => y = .int (i : Int))
        (fun _ _ _ _ _ h => h) (fun D o hD => same_new hD) (fun D i H' o hD s => same_mut s hD) (fun D i H' hD hi s => SqL.of (s _ _ hp1)) ?_ ?_
      · rintro D i y H8 H9 acc hD hi s8 hA ⟨Tt, x1, x2, rfl, nT, rfl, e1, e2⟩ Kt Kf kt kf
        obtain ⟨p, hpi, rfl⟩ := map_at e2
        obtain rfl : V.int (i : Nat) = x1 := Option.some.inj e1
        obtain ⟨lot', hl', hP⟩ := paired_at hp2 hpi
        obtain ⟨m, hmi, rfl⟩ := map_at hl'
        have himl := at_lt hmi
        have em : KM.nth ms i = m := by rw [enth i himl]; exact (List.getElem?_eq_some_iff.mp hmi).2
        rw [em] at kt kf
        have sT := same_new (o := .tup [V.int (i : Nat), .ref p]) nT
        have s48 := s8.trans sT
        have s08 := s04.trans s48
        refine ⟨Tt, _, rfl, SqT.of upd_same, rfl, _, _, rfl, _, _, rfl, rfl, rfl, ?_⟩
        refine ⟨_, rfl, _, rfl, _, rfl, _, rfl, _, _, rfl, rfl, _, _, rfl, rfl, la, _, _, .ref qk, rfl, rfl, SqL.of (s08 _ _ hqs), at_of (by omega) (map_get hqk), ?_⟩
        refine ⟨lD (KM.beh hs m lot), _, dp_l (s48 _ _ (hid_le _ _ hP)), (hLok.mono s08).dp, lD_shaped (fun x hx => W.ok x ((KM.beh_sub ..).subset hx)), shL hLk, _, rfl, ?_⟩
        rw [any_lD]
        have hbn : KM.beh hs m lot ≠ [] := fun e => by
          have h1 := (KM.grow W.G (at_mem hmi) hll).length_le
          rw [e] at h1
          have h0 : ([] : List Str).length = 0 := rfl
          have h2 : 0 < lot.length := List.length_pos_iff.mpr hln
          omega
        have hin2 : KM.beh hs m lot ∈ Lk ↔ KM.kp hs ms k (KM.beh hs m lot) = true := by
          rw [lateK.2]
          exact ⟨fun h => h.2.2, fun h => ⟨hbn, KM.beh_sub .., h⟩⟩
        cases eq : KM.kp hs ms k (KM.beh hs m lot) with
        | true => exact iteB (decide_eq_true (hin2.mpr eq)) ⟨_, rfl, kt eq _ _ s48 (sT _ _ hA) (same_hid sT) rfl⟩
        | false => exact iteBF (decide_eq_false fun h => by rw [hin2.mp h] at eq; cases eq) (kf eq _ s48 (sT _ _ hA) (same_hid sT))
      · intro D H8 ys hD s8 hA hpp
        rw [List.length_map, hpl] at hpp
        have hy : ys[0]? = some (.int (KM.ix hs ms k lot : Nat)) := by
          have h0 : ((List.range ms.length).filter fun i => KM.kp hs ms k (KM.beh hs (KM.nth ms i) lot))[0]? = some (KM.ix hs ms k lot) := by
            rw [← List.head?_eq_getElem?]
            exact hhead
          obtain ⟨y, h1, h2⟩ := paired_at hpp h0
          rw [h1, h2]
        have hfo8 := s8 _ _ hfo4
        refine ⟨D, _, 0, _, rfl, rfl, SqL.of hA, atI_nat hy, fo, _, _, rfl, rfl, hfo8, ?_, ?_⟩
        · rw [hrpl]
          exact small1000 (by omega)
        · have hps : ps[KM.ix hs ms k lot]? = some (ps[KM.ix hs ms k lot]'(by omega)) := List.getElem?_eq_getElem _
          obtain ⟨lot', hl', hP⟩ := paired_at hp2 hps
          obtain ⟨m, hmi, rfl⟩ := map_at hl'
          have em : KM.nth ms (KM.ix hs ms k lot) = m := by rw [enth _ hix]; exact (List.getElem?_eq_some_iff.mp hmi).2
          have nld2 : ld ≠ fo := (ne_of_none hfo nld).symm
          have hld8 := s8 _ _ hp1
          have erow : rowV pre ++ [V.int (KM.ix hs ms k lot : Nat)] = rowV (pre ++ [KM.ix hs ms k lot]) := by unfold rowV; rw [List.map_append]; rfl
          rw [erow]
          refine ⟨_, rfl, _, rfl, 1, rfl, fo, _, _, _, rfl, rfl, SqL.of upd_same, (by rw [← erow]; exact atI_last _ _), ld, _, _, _, rfl, rfl, SqL.of (by rw [upd_ne nld2]; exact hld8), atI_nat (map_get hps), ?_⟩
          refine ⟨ps[KM.ix hs ms k lot]'(by omega), KM.beh hs m lot, pre ++ [KM.ix hs ms k lot], _, _, rfl, ?_, ?_, ?_, KM.beh_sub .., ?_, ?_, ?_, upd_same⟩
          · rw [hid_in (by simp)]
            exact Same.trans sH (same_hid (s4.trans s8))
          · have h9 := s8 _ _ (hid_le _ _ hP)
            show upd H8 fo _ _ = _
            rw [upd_ne (fun z => (hid_at hP).1 (by rw [z]; simp))]
            exact h9
          · intro e
            have h1 := (KM.grow W.G (at_mem hmi) hll).length_le
            rw [e] at h1
            have h2 : 0 < lot.length := List.length_pos_iff.mpr hln
            have h0 : ([] : List Str).length = 0 := rfl
            omega
          · have e2 : r - (j + 1) = k := by omega
            rw [e2, ← em]
            have z := List.findIdx_getElem (xs := ms) (p := fun m => KM.kp hs ms k (KM.beh hs m lot)) (w := hix)
            rw [enth _ hix]
            exact z
          · have e2 : r - (j + 1) = k := by omega
            rw [e2, hgr, List.append_assoc, ← em]
            rfl
          · rw [List.length_append, hpre]
            rfl
    · rintro σ H2 ⟨lt, lot, pre, v6, v7, rfl, sH, hlt, hln, hll, hkp, hgr, hpre, hfo⟩
      have e3 : KM.gr hs ms r [z] = pre := by rw [hgr, Nat.sub_self]; exact List.append_nil _
      exact ⟨_, rfl, k2 ek fo _ nfH (Same.trans sH hid_le) (by rw [e3]; exact hfo)⟩)
end
end K9

/-! ## L20 -/
set_option maxHeartbeats 2000000
namespace K9
open PySem PySem.Spec PyProof.Rows L2
theorem op_catAk {X : Cx} (K : PySem.W.Frag) (h : X.K = K := by rfl) : OpR X (binaryOp .Add) (rCatA K) := by subst h; exact op_catA
theorem pi_tupk {X : Cx} (K : PySem.W.Frag) {tg l : Expr} {tl : TE} (hl : PE X l tl) (h : X.K = K := by rfl) : PI X tg l (iTup K tl) := by subst h; exact pi_tup hl
def RowsAt (H : Hp) (l : Addr) (rs : List (List Nat)) : Prop := ∃ ps : List Addr, H l = some (.lst (ps.map V.ref)) ∧ Paired (fun p row => H p = some (.tup (rowV row))) ps rs
theorem RowsAt.mono {H H' : Hp} {l : Addr} {rs : List (List Nat)} (s : Same H H') (h : RowsAt H l rs) : RowsAt H' l rs := let ⟨ps, h1, h2⟩ := h; ⟨ps, s _ _ h1, L2.Paired.mapP h2 fun _ _ h => s _ _ h⟩
theorem rows_len (many : Nat) : ∀ r, (KM.rows many r).length = many ^ r
  | 0 => rfl
  | r + 1 => by
    rw [KM.rows, List.length_flatMap, Nat.pow_succ, ← rows_len many r]
    generalize KM.rows many r = l
    induction l with
    | nil => simp
    | cons x l ih =>
      simp only [List.map_cons, List.sum_cons, List.length_map, List.length_range, List.length_cons] at ih ⊢
      rw [ih, Nat.succ_mul]
      omega
theorem rows_row (many : Nat) : ∀ r, ∀ row ∈ KM.rows many r, row.length = r ∧ ∀ i ∈ row, i < many
  | 0, row, h => by
    rw [KM.rows, List.mem_singleton] at h
    subst h
    exact ⟨rfl, fun i hi => by cases hi⟩
  | r + 1, row, h => by
    rw [KM.rows, List.mem_flatMap] at h
    obtain ⟨row', h1, h2⟩ := h
    obtain ⟨i, h3, rfl⟩ := List.mem_map.mp h2
    obtain ⟨h4, h5⟩ := rows_row many r row' h1
    refine ⟨by rw [List.length_append, h4]; rfl, fun j hj => ?_⟩
    rcases List.mem_append.mp hj with q | q
    · exact h5 j q
    · rw [List.mem_singleton.mp q]; exact List.mem_range.mp h3
section
variable {P : Program} {w : World} {K : PySem.W.Frag} {mg : Str → Option Value} {base : Heap}
theorem sc_l_rows_of : FnScope ["_law_many", "_law_rounds", "_law_found", "_law_k", "_law_longer", "_law_row", "_law_index"] ["_law_many", "_law_rounds"] (defScope s_l_rows_of) := ⟨rfl, rfl, rfl, by decide +kernel, rfl, by decide +kernel, by decide +kernel⟩
def spRows : Sp := fun vs H Q _ => ∃ many r : Nat, vs = [.int (many : Int), .int (r : Int)] ∧ many ≤ 5 ∧ r ≤ 2 ∧ ∀ l H', H l = none → Same H H' → RowsAt H' l (KM.rows many r) → Q (.ref l) H'
theorem ok_l_rows_of (T : Tx K mg) : Ok P w K mg base CX0 1 "_law_rows_of" ["_law_many", "_law_rounds"] spRows :=
  ok_of T d_l_rows_of (by unfold fn; simp) rfl rfl rfl rfl rfl rfl (by decide +kernel) sc_l_rows_of (fun _ _ _ _ _ _ us hl => match us, hl with | [_, _], _ => rfl) (fun vs H Q E ⟨_, _, h, _⟩ => by subst h; rfl) (fun f cdv A outer s H vs Q E hr h => by
  obtain ⟨many, r, rfl, hm, hr2, k⟩ := h
  refine ⟨_, PSs.nox (pss_cons (ps_set (i := 2) sc_l_rows_of.nd rfl (by first | exact Or.inl rfl | exact Or.inr rfl) (pe_lst (pa_cons (pe_tup pa_nil) pa_nil)))
    (pss_cons (ps_for PassesOwn.never rfl (pi_range1 rfl (T.Z "range") (pa_cons (pv 1) pa_nil)) (pg_name (i := 3) sc_l_rows_of.nd rfl (by first | exact Or.inl rfl | exact Or.inr rfl))
      (pss_cons (ps_set (i := 4) sc_l_rows_of.nd rfl (by first | exact Or.inl rfl | exact Or.inr rfl) (pe_lst pa_nil))
      (pss_cons (ps_for PassesOwn.never rfl (pi_listk K (pv 2)) (pg_name (i := 5) sc_l_rows_of.nd rfl (by first | exact Or.inl rfl | exact Or.inr rfl))
        (pss_one (ps_expr (pe_bmk K PySem.F.plainAttrs_list PySem.F.slot_list_extend PySem.F.type_list_extend mt_extend (pv 4) (pa_cons (pe_lc (own := [("_law_index", 6)])  rfl sc_l_rows_of.nd (pi_range1 rfl (T.Z "range") (pa_cons (pv 0) pa_nil)) (blkOk_by (by kernel_rfl)) (fun _ _ _ _ _ => (pg_name (i := 6) sc_l_rows_of.nd rfl (by first | exact Or.inl rfl | exact Or.inr rfl))) (fun _ _ _ _ _ => pts_nil) (fun _ _ _ _ _ => (pe_op (op_catAk K) (pv 5) (pe_tup (pa_cons (pv 6) pa_nil))))) pa_nil)))))
      (pss_one (ps_set (i := 2) sc_l_rows_of.nd rfl (by first | exact Or.inl rfl | exact Or.inr rfl) (pv 4))))))
    (pss_one (ps_ret (pv 2))))), ?_⟩
  refine ⟨Nat.zero_le _, fun e0 ne0 => ⟨sz1, fun f0 nf0 => ?_⟩⟩
  have s0 := (same_new (o := .tup []) ne0).trans (same_new (o := .lst [.ref e0]) nf0)
  refine ⟨_, rfl, _, rfl, by omega, by omega, ?_⟩
  rw [Int.toNat_natCast]
  refine for_it (walk_range (lo := 0) (n := r)) (fun i σ H' => ∃ f v3 v4 v5, σ = [some (.int (many : Int)), some (.int (r : Int)), some (.ref f), v3, v4, v5, none] ∧ H f = none ∧ Same H H' ∧ RowsAt H' f (KM.rows many i))
    ⟨f0, none, none, none, rfl, (same_new ne0).free nf0, s0, [e0], upd_same, .cons (same_new nf0 _ _ upd_same) .nil⟩ (fun _ _ _ _ _ => trivial) ?_ ?_
  · rintro i x σ H1 H2 hi ⟨f, v3, v4, v5, rfl, nfH, s1, ⟨ps, hf1, hp1⟩⟩ ⟨rfl, rfl⟩
    have hrl : (KM.rows many i).length ≤ 5 := by
      rw [rows_len]
      have : many ^ i ≤ 5 ^ 1 := Nat.le_trans (Nat.pow_le_pow_left hm i) (Nat.pow_le_pow_right (by decide) (by omega))
      exact this
    have hpl := hp1.length
    refine ⟨Nat.zero_le _, fun lo nlo => ?_⟩
    have slo := same_new (o := .lst []) nlo
    have nloH : H lo = none := s1.free nlo
    have nlf : lo ≠ f := (ne_of_none hf1 nlo).symm
    have hid1 : Same H2 (hid [lo] (upd H2 lo (.lst []))) := fun b o e => hid_of (by simpa using ne_of_none e nlo) (slo _ _ e)
    refine ⟨_, rfl, f, rfl, ⟨_, SqL.of (slo _ _ hf1)⟩, for_list (K := K) (a := f) (xs := ps.map V.ref) (fun j σ H' => ∃ v5 qs, σ = [some (.int (many : Int)), some (.int (r : Int)), some (.ref f), some (.int (0 + (i : Int))), some (.ref lo), v5, none] ∧ Same H2 (hid [lo] H') ∧ H' lo = some (.lst (qs.map V.ref)) ∧ Paired (fun p row => hid [lo] H' p = some (.tup (rowV row))) qs (((KM.rows many i).take j).flatMap fun row => (List.range many).map fun i => row ++ [i]) ∧ qs.length = j * many)
      ⟨v5, [], rfl, hid1, upd_same, .nil, (Nat.zero_mul _).symm⟩ (fun j σ H' _ ⟨_, _, _, s, _⟩ => SqL.of (hid_le _ _ (s _ _ hf1))) ?_ ?_⟩
    · rintro j y σ H3 hj ⟨v5, qs, rfl, s3, hlo3, hq3, hql3⟩
      obtain ⟨p, hp, rfl⟩ := map_at hj
      obtain ⟨row, hrow, hpt⟩ := paired_at hp1 hp
      have hj5 := at_lt hrow
      obtain ⟨hrl2, hrm⟩ := rows_row many i row (at_mem hrow)
      have hrv : (rowV row).length = i := by unfold rowV; rw [List.length_map, hrl2]
      refine ⟨_, rfl, .inl ⟨rfl, _, SqL.of hlo3⟩, _, rfl, _, rfl, by omega, by omega, ?_⟩
      rw [Int.toNat_natCast]
      refine lcd (walk_range (lo := 0) (n := many)) (by omega) [lo] (fun _ => true) (fun D i H' => Same H3 H') (fun i y H' => ∃ p, y = V.ref p ∧ H' p = some (.tup (rowV (row ++ [i]))))
        (fun i y H1 H2 s ⟨p, e1, e2⟩ => ⟨p, e1, s _ _ e2⟩) (fun D o hD => same_new hD) (fun D i H' o hD s => same_mut s hD) (fun D i H' hD hi s => trivial) ?_ ?_
      · rintro D ii y H4 H5 acc hD hii s4 hA ⟨rfl, rfl⟩ Kt Kf kt kf
        refine ⟨rfl, tyes ?_⟩
        refine ⟨_, rfl, _, rfl, sz1, fun b nb => ?_⟩
        have sb := same_new (o := .tup [V.int (0 + (ii : Int))]) nb
        have hpt5 := sb _ _ (s4 _ _ (hid_le _ _ (s3 _ _ hpt)))
        have hlo5 := s4 _ _ hlo3
        have e1 : [V.int (0 + (ii : Int))] = rowV [ii] := by unfold rowV; rw [Int.zero_add]; rfl
        have eapp : rowV (row ++ [ii]) = rowV row ++ rowV [ii] := by unfold rowV; rw [List.map_append]
        refine ⟨p, b, rowV row, [V.int (0 + (ii : Int))], rfl, rfl, SqT.of hpt5, SqT.of upd_same, by rw [hrv]; exact sz1000 (by simp only [List.length_cons, List.length_nil]; omega), fun z => ?_, fun z z2 => ?_, fun z z2 t nt => ?_⟩
        · refine kt rfl _ _ (s4.trans sb) (sb _ _ hA) (same_hid sb) ⟨b, rfl, hid_of (fun q => ?_) (by rw [upd_same, eapp, z, e1]; rfl)⟩
          simp only [List.mem_cons, List.not_mem_nil, or_false] at q
          rcases q with q | q
          · exact ne_of_none hA nb q.symm
          · exact ne_of_none hlo5 nb q.symm
        · cases z2
        · have st := same_new (o := .tup (rowV row ++ [V.int (0 + (ii : Int))])) nt
          refine kt rfl _ _ (s4.trans (sb.trans st)) (st _ _ (sb _ _ hA)) (same_hid (sb.trans st)) ⟨t, rfl, hid_of (fun q => ?_) (by rw [upd_same, eapp, e1])⟩
          simp only [List.mem_cons, List.not_mem_nil, or_false] at q
          rcases q with q | q
          · exact ne_of_none (sb _ _ hA) nt q.symm
          · exact ne_of_none (sb _ _ hlo5) nt q.symm
      · intro D H4 ys hD s4 hA hpp
        have hpp2 : Paired (fun i y => ∃ t lot, y = V.ref t ∧ hid [lo] H4 t = some (.tup (rowV (row ++ [i]))) ∧ lot = ([] : List Str)) ((List.range many).filter fun _ => true) ys := L2.Paired.mapP hpp fun i y ⟨p, h1, h2⟩ => ⟨p, [], h1, hid_sub (fun b hb => List.mem_cons_of_mem _ hb) _ _ h2, rfl⟩
        rw [List.filter_eq_self.mpr (fun _ _ => rfl)] at hpp2
        obtain ⟨es, rfl, hes⟩ := pairs_of (G := fun i t lot => hid [lo] H4 t = some (.tup (rowV (row ++ [i]))) ∧ lot = ([] : List Str)) hpp2
        have hel := hes.length
        rw [List.length_range] at hel
        have hlo4 := s4 _ _ hlo3
        have hjm : j * many ≤ 4 * 5 := Nat.mul_le_mul (by omega) hm
        refine ⟨lo, D, _, _, rfl, rfl, hlo4, hA, by rw [List.length_map, List.length_map]; exact sz1000 (by omega), ?_⟩
        refine ⟨_, qs ++ es.map (·.1), rfl, ?_, ?_, ?_, ?_⟩
        · rw [hid_in (by simp)]
          exact Same.trans s3 (same_hid s4)
        · rw [upd_same, List.map_append, List.map_map]
          rfl
        · rw [hid_in (by simp), take_more hrow, List.flatMap_append]
          refine paired_append (L2.Paired.mapP hq3 fun _ _ h => same_hid s4 _ _ h) ?_
          rw [List.flatMap_singleton]
          have gen : ∀ {is : List Nat} {es : List (Addr × List Str)}, Paired (fun i (e : Addr × List Str) => hid [lo] H4 e.1 = some (.tup (rowV (row ++ [i]))) ∧ e.2 = ([] : List Str)) is es → Paired (fun p row => hid [lo] H4 p = some (.tup (rowV row))) (es.map (·.1)) (is.map fun i => row ++ [i]) := by
            intro is es h
            induction h with
            | nil => exact .nil
            | cons r _ ih => exact .cons r.1 ih
          exact gen hes
        · rw [List.length_append, List.length_map, hql3, ← hel, Nat.add_mul, Nat.one_mul]
    · rintro σ H3 ⟨v5, qs, rfl, s3, hlo3, hq3, hql3⟩
      rw [List.length_map, hpl, List.take_length] at hq3
      exact ⟨_, rfl, lo, _, _, _, rfl, nloH, s1.trans (Same.trans s3 hid_le), qs, hlo3, L2.Paired.mapP hq3 fun _ _ h => hid_le _ _ h⟩
  · rintro σ H1 ⟨f, v3, v4, v5, rfl, nfH, s1, hR⟩
    exact ⟨_, rfl, k f H1 nfH s1 hR⟩)
end
end K9

/-! ## L21 -/
set_option maxHeartbeats 2000000
namespace K9
open PySem PySem.Spec PyProof.Rows L2
theorem find_at {α : Type} {l : List α} {p : α → Bool} {i : Nat} {x : α} (h : l[i]? = some x) (hp : p x = true) (n : ∀ y ∈ l.take i, p y = false) : l.find? p = some x := by
  rw [List.find?_eq_some_iff_append]
  have hi := at_lt h
  refine ⟨hp, l.take i, l.drop (i + 1), ?_, fun a ha => by rw [n a ha]; rfl⟩
  have e : x = l[i] := (List.getElem?_eq_some_iff.mp h).2.symm
  rw [e, ← List.drop_eq_getElem_cons hi, List.take_append_drop]
section
variable {P : Program} {w : World} {K : PySem.W.Frag} {mg : Str → Option Value} {base : Heap}
theorem sc_l_by_all : FnScope ["_law_maps_here", "_law_hand", "_law_rounds", "_law_row", "_law_lot", "_law_index"] ["_law_maps_here", "_law_hand", "_law_rounds"] (defScope s_l_by_all) := ⟨rfl, rfl, rfl, by decide +kernel, rfl, by decide +kernel, by decide +kernel⟩
def spByAll : Sp := fun vs H Q _ => ∃ lm z r hs ms, ∃ W : Wd hs ms, vs = [.ref lm, .str z, .int ((r : Nat) : Int)] ∧ MapsP H hs lm ms ∧ r ≤ 2 ∧ z ∈ hs ∧
  (KM.kp hs ms r [z] = false → ∀ H', Same H H' → Q .non H') ∧ (KM.kp hs ms r [z] = true → ∀ p H', H p = none → Same H H' → H' p = some (.lst (rowV (KM.gr hs ms r [z]))) → Q (.ref p) H')
theorem ok_l_by_all (T : Tx K mg) : Ok P w K mg base CX0 2 "_law_by_all" ["_law_maps_here", "_law_hand", "_law_rounds"] spByAll :=
  ok_of T d_l_by_all (by unfold fn; simp) rfl rfl rfl rfl rfl rfl (by decide +kernel) sc_l_by_all (fun _ _ _ _ _ _ us hl => match us, hl with | [_, _, _], _ => rfl) (fun vs H Q E ⟨_, _, _, _, _, _, h, _⟩ => by subst h; rfl) (fun f cdv A outer s H vs Q E hr h => by
  obtain ⟨lm, z, r, hs, ms, W, rfl, hm, hr2, hz, k1, k2⟩ := h
  refine ⟨_, PSs.nox (pss_cons (ps_for PassesOwn.never rfl (pi_listk K (pe_c (ok_l_rows_of T) (hr.mono (by first | decide | omega)) pass0 (pa_cons (pe_callB (call_len_seqk K) (by rfl) (T.Z "len") bt_len (pa_cons (pv 0) pa_nil)) (pa_cons (pv 2) pa_nil)))) (pg_name (i := 3) sc_l_by_all.nd rfl (by first | exact Or.inl rfl | exact Or.inr rfl))
      (pss_cons (ps_set (i := 4) sc_l_by_all.nd rfl (by first | exact Or.inl rfl | exact Or.inr rfl) (pe_lst (pa_cons (pv 1) pa_nil)))
      (pss_cons (ps_for PassesOwn.never rfl (pi_tupk K (pv 3)) (pg_name (i := 5) sc_l_by_all.nd rfl (by first | exact Or.inl rfl | exact Or.inr rfl))
        (pss_one (ps_set (i := 4) sc_l_by_all.nd rfl (by first | exact Or.inl rfl | exact Or.inr rfl) (pe_c (ok_l_m_behind T) (hr.mono (by first | decide | omega)) pass0 (pa_cons (pe_ix (ix_listk K) (pv 0) (pv 5) (fun _ _ => rfl)) (pa_cons (pv 4) pa_nil))))))
      (pss_one (ps_if (pt_cmpR op_lt (pe_callB (call_len_seqk K) (by rfl) (T.Z "len") bt_len (pa_cons (pv 4) pa_nil)) (pe_callB call_lenD (by rfl) (T.Z "len") bt_len (pa_cons (pe_ix (ix_listk K) (pv 0) pe_int (fun _ _ => rfl)) pa_nil)) (nomark _)) (pss_one (ps_ret (pe_callTy (call_list_ofk K) (by rfl) (T.Z "list") bt_list (pa_cons (pv 3) pa_nil)))) pss_nil)))))
    (pss_one (ps_ret pe_non))), ?_⟩
  have h4 := W.h4
  have hms5 := W.m5
  have hzl : [z].Sublist hs := List.singleton_sublist.mpr hz
  have hfirst := KM.first_row W.G r hzl
  rw [← KM.rows_eq] at hfirst
  obtain ⟨d0, kvs0, r0, e1, e2, e3⟩ := mapsP_head hm W.G.ne
  have hm' := hm
  obtain ⟨ds, hlm, hds⟩ := hm'
  have hdl := hds.length
  refine ⟨_, rfl, lm, _, rfl, .inl (SqL.of hlm), _, rfl, ms.length, r, ?_, hms5, hr2, fun ll H1 nll s1 hR => ⟨ll, rfl, ?_⟩⟩
  · rw [List.length_map, hdl]; rfl
  obtain ⟨ps, hl1, hp1⟩ := hR
  have hpl := hp1.length
  refine ⟨⟨_, SqL.of hl1⟩, for_list (K := K) (a := ll) (xs := ps.map V.ref) (fun i σ H' => ∃ v3 v4 v5, σ = [some (.ref lm), some (.str z), some (.int (r : Int)), v3, v4, v5] ∧ Same H1 H' ∧ ∀ row ∈ (KM.rows ms.length r).take i, decide ((KM.run hs ms [z] row).length < hs.length) = false)
    ⟨none, none, none, rfl, .refl _, fun row h => by simp at h⟩ (fun i σ H' _ ⟨_, _, _, _, s, _⟩ => SqL.of (s _ _ hl1)) ?_ ?_⟩
  · rintro i y σ H2 hi ⟨v3, v4, v5, rfl, s2, none2⟩
    obtain ⟨p, hp, rfl⟩ := map_at hi
    obtain ⟨row, hrow, hpt⟩ := paired_at hp1 hp
    obtain ⟨hrl2, hrm⟩ := rows_row ms.length r row (at_mem hrow)
    refine ⟨_, rfl, sz1, fun t nt => ?_⟩
    have st := same_new (o := .lst [V.str z]) nt
    have s2t := s2.trans st
    refine ⟨_, rfl, p, rfl, ⟨_, SqT.of (s2t _ _ hpt)⟩, for_it (walk_tup (xs := rowV row)) (fun j σ H' => ∃ v5 t, σ = [some (.ref lm), some (.str z), some (.int (r : Int)), some (.ref p), some (.ref t), v5] ∧ Same H1 H' ∧ Strs H' t (KM.run hs ms [z] (row.take j)))
      ⟨v5, t, rfl, s2t, upd_same⟩ (fun j σ H' _ ⟨_, _, _, s, _⟩ => SqT.of (s _ _ hpt)) ?_ ?_⟩
    · rintro j x σ H3 H4 hj ⟨v5, t, rfl, s3, hst⟩ ⟨rfl, hx⟩
      obtain ⟨ii, hii, rfl⟩ := map_at hx
      have him := hrm ii (at_mem hii)
      have hmi : ms[ii]? = some ms[ii] := List.getElem?_eq_getElem him
      obtain ⟨d, hd, hP⟩ := paired_at' hds hmi
      have s04 := s1.trans s3
      refine ⟨_, rfl, _, rfl, lm, _, _, _, rfl, rfl, SqL.of (s04 _ _ hlm), atI_nat (map_get hd), _, rfl, d, t, hs, ms[ii], _, rfl, hP.mono s04, by omega, W.len _ (List.getElem_mem him), .inr hst, fun b H5 nb s5 hb => ?_⟩
      rw [W.so] at hb
      refine ⟨_, b, rfl, s3.trans s5, ?_⟩
      have en : KM.nth ms ii = ms[ii] := by unfold KM.nth; simp [him]
      rw [take_more hii]
      unfold KM.run at hb ⊢
      rw [List.foldl_append]
      show Strs H5 b (KM.beh hs (KM.nth ms ii) _)
      rw [en]
      exact hb
    · rintro σ H3 ⟨v5, t, rfl, s3, hst⟩
      have hrv : (rowV row).length = row.length := by unfold rowV; rw [List.length_map]
      rw [hrv, List.take_length] at hst
      have s03 := s1.trans s3
      refine ⟨_, rfl, t, _, rfl, .inl (SqL.of hst), _, rfl, lm, _, 0, .ref d0, rfl, rfl, SqL.of (s03 _ _ e1), atI_nat (j := 0) rfl, d0, _, rfl, s03 _ _ e2, _, _, rfl, rfl, _, rfl, ?_⟩
      rw [List.length_map, e3]
      by_cases c : (KM.run hs ms [z] row).length < hs.length
      · refine iteB (decide_eq_true (by omega)) ?_
        have hf := find_at (p := fun row => decide ((KM.run hs ms [z] row).length < hs.length)) hrow (decide_eq_true c) none2
        rw [hf] at hfirst
        cases ek : KM.kp hs ms r [z] with
        | false => rw [ek] at hfirst; simp at hfirst
        | true =>
          rw [ek, if_pos rfl] at hfirst
          refine ⟨_, rfl, p, _, rfl, .inr (SqT.of (s3 _ _ hpt)), fun l nl => ?_⟩
          refine k2 ek l _ (s03.free nl) (s03.trans (same_new nl)) ?_
          rw [upd_same, Option.some.inj hfirst]
      · refine iteBF (decide_eq_false (by omega)) ?_
        refine ⟨_, _, _, rfl, s3, fun row' h => ?_⟩
        rw [take_more hrow] at h
        rcases List.mem_append.mp h with q | q
        · exact none2 row' q
        · rw [List.mem_singleton.mp q]; exact decide_eq_false c
  · rintro σ H2 ⟨v3, v4, v5, rfl, s2, none2⟩
    rw [List.length_map, hpl, List.take_length] at none2
    have hf : (KM.rows ms.length r).find? (fun row => decide ((KM.run hs ms [z] row).length < hs.length)) = none := by
      rw [List.find?_eq_none]
      intro x hx
      rw [none2 x hx]
      exact Bool.false_ne_true
    rw [hf] at hfirst
    cases ek : KM.kp hs ms r [z] with
    | false => exact k1 ek _ (s1.trans s2)
    | true => rw [ek] at hfirst; simp at hfirst)
end
end K9

/-! ## L22 -/
set_option maxHeartbeats 2000000
namespace K9
open PySem PySem.Spec PyProof.Rows L2
/-- equal data, so deep -/
inductive Sm (H : Hp) : Nat → V → V → Prop
  | non {d : Nat} : Sm H d .non .non
  | bl {d : Nat} (b : Bool) : Sm H d (.bl b) (.bl b)
  | int {d : Nat} (i : Int) : Sm H d (.int i) (.int i)
  | str {d : Nat} (z : Str) : Sm H d (.str z) (.str z)
  | lst {d : Nat} {a b : Addr} {xs ys : List V} (ha : H a = some (.lst xs)) (hb : H b = some (.lst ys)) (e : xs.length = ys.length) (l : xs.length ≤ 100) (h : ∀ (i : Nat) x y, xs[i]? = some x → ys[i]? = some y → Sm H d x y) : Sm H (d + 1) (.ref a) (.ref b)
  | tup {d : Nat} {a b : Addr} {xs ys : List V} (ha : H a = some (.tup xs)) (hb : H b = some (.tup ys)) (e : xs.length = ys.length) (l : xs.length ≤ 100) (h : ∀ (i : Nat) x y, xs[i]? = some x → ys[i]? = some y → Sm H d x y) : Sm H (d + 1) (.ref a) (.ref b)
theorem Sm.mono {H H' : Hp} (s : Same H H') : ∀ {d : Nat} {v w : V}, Sm H d v w → Sm H' d v w
  | _, _, _, .non => .non
  | _, _, _, .bl b => .bl b
  | _, _, _, .int i => .int i
  | _, _, _, .str z => .str z
  | _, _, _, .lst ha hb e l h => .lst (s _ _ ha) (s _ _ hb) e l fun i x y h1 h2 => (h i x y h1 h2).mono s
  | _, _, _, .tup ha hb e l h => .tup (s _ _ ha) (s _ _ hb) e l fun i x y h1 h2 => (h i x y h1 h2).mono s
theorem walk_zipT {K : PySem.W.Frag} {a b : Addr} {xs ys : List V} {n : Nat} (hn : n = min xs.length ys.length) : Walk (RZ.ItzT K a b) n (fun H => SqT K H a xs ∧ SqT K H b ys) (YPair (fun i => xs[i]?) (fun i => ys[i]?)) := by
  subst hn
  refine ⟨fun i _ hi q => ?_, fun _ q => ⟨xs, ys, q.1, q.2, by omega⟩, fun i H v H' _ q y => ?_⟩
  · have h1 : i < xs.length := by omega
    have h2 : i < ys.length := by omega
    exact ⟨xs, ys, xs[i], ys[i], q.1, q.2, by simp [h1], by simp [h2]⟩
  · obtain ⟨T, x, z, h1, h2, h3, h4, h5⟩ := y
    exact ⟨T, x, z, h1, h2, h3, h4 xs q.1, h5 ys q.2⟩
theorem sz4 : 4 ≤ sizeLine := by decide
section
variable {P : Program} {w : World} {K : PySem.W.Frag} {mg : Str → Option Value} {base : Heap}
theorem sc_l_same : FnScope ["_law_found", "_law_due", "_law_x", "_law_y"] ["_law_found", "_law_due"] (defScope s_l_same) := ⟨rfl, rfl, rfl, by decide +kernel, rfl, by decide +kernel, by decide +kernel⟩
def spSame (d : Nat) : Sp := fun vs H Q _ => ∃ v u, vs = [v, u] ∧ Sm H d v u ∧ ∀ H', Same H H' → Q (.bl true) H'
def spSm : Nat → Sp
  | 0 => fun _ _ _ _ => False
  | d + 1 => spSame d
theorem kit4 {n : String} (h1 : kitB n "int" = some false) (h2 : kitB n "list" = some false) (h3 : kitB n "tuple" = some false) (h4 : kitB n "dict" = some false) : PySem.W.kitAny K (.type n) [.type "int", .type "list", .type "tuple", .type "dict"] = some false :=
  kitAny_cons (b := false) (kit_ty h1) (fun _ => kitAny_cons (b := false) (kit_ty h2) (fun _ => kitAny_cons (b := false) (kit_ty h3) (fun _ => kitAny_cons (b := false) (kit_ty h4) (fun _ => rfl) fun z => by cases z) fun z => by cases z) fun z => by cases z) fun z => by cases z
theorem ok_l_same0 (T : Tx K mg) : ∀ d : Nat, Ok P w K mg base CX0 (d + 1) "_law_same" ["_law_found", "_law_due"] (spSm d) := fun d => by
  induction d with
  | zero => exact ok_of T d_l_same (by unfold fn; simp) rfl rfl rfl rfl rfl rfl (by decide +kernel) sc_l_same (fun _ _ _ _ _ _ us hl => match us, hl with | [_, _], _ => rfl) (fun vs H Q E h => False.elim h) (fun f cdv A outer s H vs Q E hr h => False.elim h)
  | succ d IH =>
    refine ok_of T d_l_same (by unfold fn; simp) rfl rfl rfl rfl rfl rfl (by decide +kernel) sc_l_same (fun _ _ _ _ _ _ us hl => match us, hl with | [_, _], _ => rfl) (fun vs H Q E ⟨_, _, h, _⟩ => by subst h; rfl) (fun f cdv A outer s H vs Q E hr h => ?_)
    obtain ⟨v, u, rfl, hs, k⟩ := h
    refine ⟨_, PSs.nox (pss_cons (ps_if (pt_val (pe_callB (call_isiTk K) (by rfl) (T.Z "isinstance") bt_isinstance (pa_cons (pv 1) (pa_cons (pe_tup (pa_cons (pe_bltn (v := .ty "list") (by rfl) (T.Z "list") bt_list rfl) (pa_cons (pe_bltn (v := .ty "tuple") (by rfl) (T.Z "tuple") bt_tuple rfl) pa_nil))) pa_nil)))) (pss_cons (ps_if (PW.pt (pw_or (pt_cmpR op_ne (pe_callB (call_isik K) (by rfl) (T.Z "isinstance") bt_isinstance (pa_cons (pv 0) (pa_cons (pe_bltn (v := .ty "list") (by rfl) (T.Z "list") bt_list rfl) pa_nil))) (pe_callB (call_isik K) (by rfl) (T.Z "isinstance") bt_isinstance (pa_cons (pv 1) (pa_cons (pe_bltn (v := .ty "list") (by rfl) (T.Z "list") bt_list rfl) pa_nil))) (nomark _)) (pw_or1 (pt_cmpR op_ne (pe_callB (call_isik K) (by rfl) (T.Z "isinstance") bt_isinstance (pa_cons (pv 0) (pa_cons (pe_bltn (v := .ty "tuple") (by rfl) (T.Z "tuple") bt_tuple rfl) pa_nil))) (pe_callB (call_isik K) (by rfl) (T.Z "isinstance") bt_isinstance (pa_cons (pv 1) (pa_cons (pe_bltn (v := .ty "tuple") (by rfl) (T.Z "tuple") bt_tuple rfl) pa_nil))) (nomark _))))) (pss_one (ps_ret pe_bl)) pss_nil)
      (pss_one (ps_ret (pe_and (pe_cmpR op_eq (pe_callB (call_len_seqk K) (by rfl) (T.Z "len") bt_len (pa_cons (pv 0) pa_nil)) (pe_callB (call_len_seqk K) (by rfl) (T.Z "len") bt_len (pa_cons (pv 1) pa_nil)) (nomark _)) (pe_one (pe_callB (cr_allk K rfl) (by rfl) (T.Z "all") bt_all (pa_cons (pe_lc (own := [("_law_x", 2), ("_law_y", 3)])  rfl sc_l_same.nd (pi_zipAk K rfl (T.Z "zip") (pa_cons (pv 0) (pa_cons (pv 1) pa_nil))) (blkOk_by (by kernel_rfl)) (fun _ _ _ _ _ => (pg_tupk K (n := 2) rfl (pgs_cons (pg_name (i := 2) sc_l_same.nd rfl (by first | exact Or.inl rfl | exact Or.inr rfl)) (pgs_cons (pg_name (i := 3) sc_l_same.nd rfl (by first | exact Or.inl rfl | exact Or.inr rfl)) pgs_nil)))) (fun _ _ _ _ _ => pts_nil) (fun _ _ _ _ _ => (pe_c IH (hr.mono (by first | decide | omega)) pass0 (pa_cons (pv 2) (pa_cons (pv 3) pa_nil))))) pa_nil))))))) pss_nil)
    (pss_cons (ps_if (pt_val (pe_callB (call_isik K) (by rfl) (T.Z "isinstance") bt_isinstance (pa_cons (pv 1) (pa_cons (pe_bltn (v := .ty "dict") (by rfl) (T.Z "dict") bt_dict rfl) pa_nil)))) (pss_one ps_never) pss_nil)
    (pss_cons (ps_if (pt_val (pe_callB (call_isik K) (by rfl) (T.Z "isinstance") bt_isinstance (pa_cons (pv 1) (pa_cons (pe_bltn (v := .ty "int") (by rfl) (T.Z "int") bt_int rfl) pa_nil)))) (pss_one (ps_ret (pe_and (pe_callB (call_isik K) (by rfl) (T.Z "isinstance") bt_isinstance (pa_cons (pv 0) (pa_cons (pe_bltn (v := .ty "int") (by rfl) (T.Z "int") bt_int rfl) pa_nil))) (pe_and (pe_cmpR op_eq (pe_callB (call_isik K) (by rfl) (T.Z "isinstance") bt_isinstance (pa_cons (pv 0) (pa_cons (pe_bltn (v := .ty "bool") (by rfl) (T.Z "bool") bt_bool rfl) pa_nil))) (pe_callB (call_isik K) (by rfl) (T.Z "isinstance") bt_isinstance (pa_cons (pv 1) (pa_cons (pe_bltn (v := .ty "bool") (by rfl) (T.Z "bool") bt_bool rfl) pa_nil))) (nomark _)) (pe_one (pe_cmpR op_eq (pv 0) (pv 1) (nomark _))))))) pss_nil)
    (pss_one (ps_ret (pe_and (pe_not (pe_callB (call_isiTk K) (by rfl) (T.Z "isinstance") bt_isinstance (pa_cons (pv 0) (pa_cons (pe_tup (pa_cons (pe_bltn (v := .ty "int") (by rfl) (T.Z "int") bt_int rfl) (pa_cons (pe_bltn (v := .ty "list") (by rfl) (T.Z "list") bt_list rfl) (pa_cons (pe_bltn (v := .ty "tuple") (by rfl) (T.Z "tuple") bt_tuple rfl) (pa_cons (pe_bltn (v := .ty "dict") (by rfl) (T.Z "dict") bt_dict rfl) pa_nil))))) pa_nil)))) (pe_one (pe_cmpR op_eq (pv 0) (pv 1) (nomark _))))))))), ?_⟩
    cases hs with
    | non =>
      refine ⟨_, rfl, sz2, fun tp ntp => ⟨.non, tp, _, .type "NoneType", [.type "list", .type "tuple"], _, rfl, upd_same, .cons (.ty _) (.cons (.ty _) .nil), (Odd.non).ty, kitLT (b := false) (by decide +kernel), _, rfl, iteF ?_⟩⟩
      have s1 := same_new (o := .tup [.ty "list", .ty "tuple"]) ntp
      refine ⟨_, rfl, .non, .ty "dict", .type "NoneType", .type "dict", _, rfl, .ty _, (Odd.non).ty, (Odd.non (H := H)).kit "dict" (by simp), _, rfl, iteBF (show isB "NoneType" "dict" = false by decide +kernel) ?_⟩
      refine ⟨_, rfl, .non, .ty "int", .type "NoneType", .type "int", _, rfl, .ty _, (Odd.non).ty, (Odd.non (H := H)).kit "int" (by simp), _, rfl, iteBF (show isB "NoneType" "int" = false by decide +kernel) ?_⟩
      refine ⟨_, rfl, sz4, fun t2 nt2 => ⟨.non, t2, _, .type "NoneType", [.type "int", .type "list", .type "tuple", .type "dict"], _, rfl, upd_same, .cons (.ty _) (.cons (.ty _) (.cons (.ty _) (.cons (.ty _) .nil))), (Odd.non).ty, kit4 (by decide +kernel) (by decide +kernel) (by decide +kernel) (by decide +kernel), _, rfl, _, rfl, iteT ?_⟩⟩
      refine ⟨_, rfl, _, rfl, rfl, ?_⟩
      rw [decide_eq_true rfl]
      exact k _ (s1.trans (same_new nt2))
    | bl b =>
      refine ⟨_, rfl, sz2, fun tp ntp => ⟨.bl b, tp, _, .type "bool", [.type "list", .type "tuple"], _, rfl, upd_same, .cons (.ty _) (.cons (.ty _) .nil), (Odd.bl b).ty, kitLT (b := false) (by decide +kernel), _, rfl, iteF ?_⟩⟩
      have s1 := same_new (o := .tup [.ty "list", .ty "tuple"]) ntp
      refine ⟨_, rfl, .bl b, .ty "dict", .type "bool", .type "dict", _, rfl, .ty _, (Odd.bl b).ty, (Odd.bl b (H := H)).kit "dict" (by simp), _, rfl, iteBF (show isB "bool" "dict" = false by decide +kernel) ?_⟩
      refine ⟨_, rfl, .bl b, .ty "int", .type "bool", .type "int", _, rfl, .ty _, (Odd.bl b).ty, (Odd.bl b (H := H)).kit "int" (by simp), _, rfl, iteB (show isB "bool" "int" = true by decide +kernel) ?_⟩
      refine ⟨_, rfl, .bl b, .ty "int", .type "bool", .type "int", _, rfl, .ty _, (Odd.bl b).ty, (Odd.bl b (H := H)).kit "int" (by simp), _, rfl, iteB (show isB "bool" "int" = true by decide +kernel) ?_⟩
      refine ⟨_, rfl, .bl b, .ty "bool", .type "bool", .type "bool", _, rfl, .ty _, (Odd.bl b).ty, (Odd.bl b (H := H)).kit "bool" (by simp), _, rfl, .bl b, .ty "bool", .type "bool", .type "bool", _, rfl, .ty _, (Odd.bl b).ty, (Odd.bl b (H := H)).kit "bool" (by simp), rfl, _, rfl, iteB (decide_eq_true rfl) ?_⟩
      refine ⟨_, rfl, _, rfl, rfl, ?_⟩
      rw [decide_eq_true rfl]
      exact k _ s1
    | int i =>
      refine ⟨_, rfl, sz2, fun tp ntp => ⟨.int i, tp, _, .type "int", [.type "list", .type "tuple"], _, rfl, upd_same, .cons (.ty _) (.cons (.ty _) .nil), (Odd.int i).ty, kitLT (b := false) (by decide +kernel), _, rfl, iteF ?_⟩⟩
      have s1 := same_new (o := .tup [.ty "list", .ty "tuple"]) ntp
      refine ⟨_, rfl, .int i, .ty "dict", .type "int", .type "dict", _, rfl, .ty _, (Odd.int i).ty, (Odd.int i (H := H)).kit "dict" (by simp), _, rfl, iteBF (show isB "int" "dict" = false by decide +kernel) ?_⟩
      refine ⟨_, rfl, .int i, .ty "int", .type "int", .type "int", _, rfl, .ty _, (Odd.int i).ty, (Odd.int i (H := H)).kit "int" (by simp), _, rfl, iteB (show isB "int" "int" = true by decide +kernel) ?_⟩
      refine ⟨_, rfl, .int i, .ty "int", .type "int", .type "int", _, rfl, .ty _, (Odd.int i).ty, (Odd.int i (H := H)).kit "int" (by simp), _, rfl, iteB (show isB "int" "int" = true by decide +kernel) ?_⟩
      refine ⟨_, rfl, .int i, .ty "bool", .type "int", .type "bool", _, rfl, .ty _, (Odd.int i).ty, (Odd.int i (H := H)).kit "bool" (by simp), _, rfl, .int i, .ty "bool", .type "int", .type "bool", _, rfl, .ty _, (Odd.int i).ty, (Odd.int i (H := H)).kit "bool" (by simp), rfl, _, rfl, iteB (decide_eq_true rfl) ?_⟩
      refine ⟨_, rfl, _, rfl, rfl, ?_⟩
      rw [decide_eq_true rfl]
      exact k _ s1
    | str z =>
      refine ⟨_, rfl, sz2, fun tp ntp => ⟨.str z, tp, _, .type "str", [.type "list", .type "tuple"], _, rfl, upd_same, .cons (.ty _) (.cons (.ty _) .nil), (Odd.str z).ty, kitLT (b := false) (by decide +kernel), _, rfl, iteF ?_⟩⟩
      have s1 := same_new (o := .tup [.ty "list", .ty "tuple"]) ntp
      refine ⟨_, rfl, .str z, .ty "dict", .type "str", .type "dict", _, rfl, .ty _, (Odd.str z).ty, (Odd.str z (H := H)).kit "dict" (by simp), _, rfl, iteBF (show isB "str" "dict" = false by decide +kernel) ?_⟩
      refine ⟨_, rfl, .str z, .ty "int", .type "str", .type "int", _, rfl, .ty _, (Odd.str z).ty, (Odd.str z (H := H)).kit "int" (by simp), _, rfl, iteBF (show isB "str" "int" = false by decide +kernel) ?_⟩
      refine ⟨_, rfl, sz4, fun t2 nt2 => ⟨.str z, t2, _, .type "str", [.type "int", .type "list", .type "tuple", .type "dict"], _, rfl, upd_same, .cons (.ty _) (.cons (.ty _) (.cons (.ty _) (.cons (.ty _) .nil))), (Odd.str z).ty, kit4 (by decide +kernel) (by decide +kernel) (by decide +kernel) (by decide +kernel), _, rfl, _, rfl, iteT ?_⟩⟩
      refine ⟨_, rfl, _, rfl, rfl, ?_⟩
      rw [decide_eq_true rfl]
      exact k _ (s1.trans (same_new nt2))
    | lst ha hb e l h =>
      rename_i a b xs ys
      refine ⟨_, rfl, sz2, fun tp ntp => ⟨.ref b, tp, _, .type "list", [.type "list", .type "tuple"], _, rfl, upd_same, .cons (.ty _) (.cons (.ty _) .nil), ((Odd.lst hb).mono (same_new ntp)).ty, kitLT (b := true) (by decide +kernel), _, rfl, iteT ?_⟩⟩
      have s1 := same_new (o := .tup [.ty "list", .ty "tuple"]) ntp
      have ha1 := s1 _ _ ha
      have hb1 := s1 _ _ hb
      refine ⟨_, rfl, .ref a, .ty "list", .type "list", .type "list", _, rfl, .ty _, (Odd.lst ha1).ty, (Odd.lst ha1).kit "list" (by simp), _, rfl, .ref b, .ty "list", .type "list", .type "list", _, rfl, .ty _, (Odd.lst hb1).ty, (Odd.lst hb1).kit "list" (by simp), rfl, _, rfl, iteBF (by rw [decide_eq_true rfl]; rfl) ?_⟩
      refine ⟨_, rfl, .ref a, .ty "tuple", .type "list", .type "tuple", _, rfl, .ty _, (Odd.lst ha1).ty, (Odd.lst ha1).kit "tuple" (by simp), _, rfl, .ref b, .ty "tuple", .type "list", .type "tuple", _, rfl, .ty _, (Odd.lst hb1).ty, (Odd.lst hb1).kit "tuple" (by simp), rfl, _, rfl, iteBF (by rw [decide_eq_true rfl]; rfl) ?_⟩
      refine ⟨_, rfl, a, xs, rfl, .inl (SqL.of ha1), _, rfl, b, ys, rfl, .inl (SqL.of hb1), rfl, _, rfl, iteB (decide_eq_true (by rw [e])) ?_⟩
      refine ⟨_, rfl, _, rfl, a, b, xs, ys, rfl, .inl ⟨SqL.of ha1, SqL.of hb1, ?_⟩⟩
      refine lcv (walk_zip (xs := xs) (ys := ys) (n := xs.length) (by omega)) (by omega) (fun _ => true) (fun _ => .bl true) (fun H' s => ⟨SqL.of (s _ _ ha1), SqL.of (s _ _ hb1)⟩) (fun i H' x H'' _ ⟨Tt, x1, x2, _, nT, eh, _⟩ => by rw [eh]; exact same_new nT) ?_ ?_
      · rintro i x H2 H3 hi s2 ⟨Tt, x1, x2, rfl, nT, rfl, e1, e2⟩ Kt Kf kt kf
        refine ⟨Tt, _, rfl, SqT.of upd_same, rfl, _, _, rfl, _, _, rfl, rfl, rfl, tyes ?_⟩
        refine ⟨_, rfl, _, rfl, x1, x2, rfl, (h i x1 x2 e1 e2).mono (s1.trans (s2.trans (same_new nT))), fun H5 s5 => kt rfl _ s5⟩
      · intro D H2 hD s2 hA
        refine ⟨D, (List.range xs.length).map fun _ => true, rfl, SqL.of (by rw [hA, List.filter_eq_self.mpr (fun _ _ => rfl), List.map_map]; rfl), ?_⟩
        rw [show ((List.range xs.length).map fun _ => true).all id = true by rw [List.all_map, List.all_eq_true]; intro _ _; rfl]
        exact k _ (s1.trans s2)
    | tup ha hb e l h =>
      rename_i a b xs ys
      refine ⟨_, rfl, sz2, fun tp ntp => ⟨.ref b, tp, _, .type "tuple", [.type "list", .type "tuple"], _, rfl, upd_same, .cons (.ty _) (.cons (.ty _) .nil), ((Odd.tup hb).mono (same_new ntp)).ty, kitLT (b := true) (by decide +kernel), _, rfl, iteT ?_⟩⟩
      have s1 := same_new (o := .tup [.ty "list", .ty "tuple"]) ntp
      have ha1 := s1 _ _ ha
      have hb1 := s1 _ _ hb
      refine ⟨_, rfl, .ref a, .ty "list", .type "tuple", .type "list", _, rfl, .ty _, (Odd.tup ha1).ty, (Odd.tup ha1).kit "list" (by simp), _, rfl, .ref b, .ty "list", .type "tuple", .type "list", _, rfl, .ty _, (Odd.tup hb1).ty, (Odd.tup hb1).kit "list" (by simp), rfl, _, rfl, iteBF (by rw [decide_eq_true rfl]; rfl) ?_⟩
      refine ⟨_, rfl, .ref a, .ty "tuple", .type "tuple", .type "tuple", _, rfl, .ty _, (Odd.tup ha1).ty, (Odd.tup ha1).kit "tuple" (by simp), _, rfl, .ref b, .ty "tuple", .type "tuple", .type "tuple", _, rfl, .ty _, (Odd.tup hb1).ty, (Odd.tup hb1).kit "tuple" (by simp), rfl, _, rfl, iteBF (by rw [decide_eq_true rfl]; rfl) ?_⟩
      refine ⟨_, rfl, a, xs, rfl, .inr (SqT.of ha1), _, rfl, b, ys, rfl, .inr (SqT.of hb1), rfl, _, rfl, iteB (decide_eq_true (by rw [e])) ?_⟩
      refine ⟨_, rfl, _, rfl, a, b, xs, ys, rfl, .inr ⟨SqT.of ha1, SqT.of hb1, ?_⟩⟩
      refine lcv (walk_zipT (xs := xs) (ys := ys) (n := xs.length) (by omega)) (by omega) (fun _ => true) (fun _ => .bl true) (fun H' s => ⟨SqT.of (s _ _ ha1), SqT.of (s _ _ hb1)⟩) (fun i H' x H'' _ ⟨Tt, x1, x2, _, nT, eh, _⟩ => by rw [eh]; exact same_new nT) ?_ ?_
      · rintro i x H2 H3 hi s2 ⟨Tt, x1, x2, rfl, nT, rfl, e1, e2⟩ Kt Kf kt kf
        refine ⟨Tt, _, rfl, SqT.of upd_same, rfl, _, _, rfl, _, _, rfl, rfl, rfl, tyes ?_⟩
        refine ⟨_, rfl, _, rfl, x1, x2, rfl, (h i x1 x2 e1 e2).mono (s1.trans (s2.trans (same_new nT))), fun H5 s5 => kt rfl _ s5⟩
      · intro D H2 hD s2 hA
        refine ⟨D, (List.range xs.length).map fun _ => true, rfl, SqL.of (by rw [hA, List.filter_eq_self.mpr (fun _ _ => rfl), List.map_map]; rfl), ?_⟩
        rw [show ((List.range xs.length).map fun _ => true).all id = true by rw [List.all_map, List.all_eq_true]; intro _ _; rfl]
        exact k _ (s1.trans s2)
theorem ok_l_same (T : Tx K mg) (d : Nat) : Ok P w K mg base CX0 (d + 2) "_law_same" ["_law_found", "_law_due"] (spSame d) := ok_l_same0 T (d + 1)
end
end K9

/-! ## L23 -/
set_option maxHeartbeats 2000000
/-! several clauses 'except x as n', of which one that is told is met -/
namespace K9
open PySem PySem.Spec PyProof.Rows L2
/-- the ends of a suite whose name goes behind it -/
def leaves (i : Nat) (D : Ends) : Ends := { nx := fun σ H => D.nx (σ.set i none) H, rt := D.rt, bk := fun σ H => D.bk (σ.set i none) H, ct := fun σ H => D.ct (σ.set i none) H }
/-- what the told clauses wish of an exception of the body: one of them meets it; slot i is n's -/
def wManyA (K : PySem.W.Frag) (i : Nat) (D : Ends) : List (Value × (Addr → Value → Option Addr → TS)) → WX
  | [] => fun _ _ _ _ => False
  | (c, ts) :: r => fun cls d σ H => ∃ b, PySem.W.exmOne K cls c = some b ∧ (b = true → ∀ a, H a = none → i < σ.length → ts a cls d (leaves i D) (σ.set i (some (.ref a))) H) ∧ (b = false → wManyA K i D r cls d σ H)
inductive HdsA (X : Cx) (n : Str) : List ExceptHandler → List (Value × (Addr → Value → Option Addr → TS)) → Prop
  | stop {hds : List ExceptHandler} : HdsA X n hds []
  | cons {x : Str} {c : Value} {ts : Addr → Value → Option Addr → TS} {first : Stmt} {others : List Stmt} {np cp : Pos} {hds : List ExceptHandler} {l : List (Value × (Addr → Value → Option Addr → TS))} (named : Names X x c)
      (does : ∀ (a : Addr) (o : Obj) (cls : Value) (d : Option Addr) (pn : List (Addr × Obj)), Zc cls d o → (∃ vs, o.data = .fields vs) → PSs (X.suite a ((a, o) :: pn)) (first :: others) (ts a cls d)) (rest : HdsA X n hds l) :
      HdsA X n (.ExceptHandler (some (.Name x np)) (some n) (first :: others) cp :: hds) ((c, ts) :: l)
section
variable {X : Cx} {n : Str} {i : Nat} {pins : List (Addr × Obj)} {D : Ends}
/-- the suite is through: its name is unbound, the flow goes on -/
theorem suite_gone {a : Addr} {o : Obj} {fl : Flow} {t : Shared} {cp : Pos} (good : X.Ok) (un : X.N.Nodup) (at_ : X.N[i]? = some n) (own : X.env.kindOf n = some .local) (r : SP (X.suite a ((a, o) :: (X.pn ++ pins))) [] (leaves i D) fl t) :
    wpAny (model X.prog X.w) X.A (do bindName X.env n .none; unbindBehindTheSuite X.env n cp) (fun _ t' => SP X pins D fl t') X.xe t := by
  have away : ∀ {σ : L2.St} {H : Hp}, Inv (X.suite a ((a, o) :: (X.pn ++ pins))) [] σ H t → (∀ t', Inv X pins (σ.set i none) H t' → SP X pins D fl t') →
      wpAny (model X.prog X.w) X.A (do bindName X.env n .none; unbindBehindTheSuite X.env n cp) (fun _ t' => SP X pins D fl t') X.xe t := fun inv go => gone_ok (inv.unsuite good) un at_ own go
  match fl, r with
  | .next, ⟨_, _, inv, z⟩ => exact away inv fun _ inv' => ⟨_, _, inv', z⟩
  | .brk, ⟨_, _, inv, z⟩ => exact away inv fun _ inv' => ⟨_, _, inv', z⟩
  | .cont, ⟨_, _, inv, z⟩ => exact away inv fun _ inv' => ⟨_, _, inv', z⟩
  | .ret _, ⟨_, _, _, inv, rv, z⟩ => exact away inv fun _ inv' => ⟨_, _, _, inv', rv, z⟩
/-- an exception of the body comes to the clauses -/
theorem clauses_take {hds : List ExceptHandler} {l : List (Value × (Addr → Value → Option Addr → TS))} (good : X.Ok) (stk : X.stack = X.env :: X.outer) (fr : X.env.frame = some X.env.locals) (un : X.N.Nodup) (at_ : X.N[i]? = some n) (own : X.env.kindOf n = some .local) (hh : HdsA X n hds l) :
    Takes (X.tr (X.pn ++ pins) fun e t => wpAny (model X.prog X.w) X.A (noteFrame e X.env) (fun _ t1 => wpAny (model X.prog X.w) X.A (setFlight e none) (fun _ t2 => wpAny (model X.prog X.w) X.A (handleBy e X.env hds) (SP X pins D) X.xe t2) X.xe t1) X.xe t) (wManyA X.K i D l) := by
  rintro u t ⟨a, far, s0, _, σ1, H1, cls, d, rfl, inv0, kept, rise, above, fresh, osys, gens, wish⟩
  have inv : Inv X pins σ1 H1 s0 := inv0.ofTry good
  have lay : ∀ {g : Heap}, far.StaysIn g → s0.heap.UpToSlots g → Inv X pins σ1 H1 { t with heap := g } := fun stays to => inv.landed kept stays to osys gens
  clear inv0 kept
  rw [show (X.tr (X.pn ++ pins) _).stack = X.env :: X.outer from stk] at above
  refine Sky.land (L := X.env.locals) Zc.steady (good.frames.trans (congrArg some stk)) fr above fun g1 low1 rise1 => ?_
  have landed1 := lay low1.1 (rise.trans rise1)
  obtain ⟨o1, _, get1, is1, data1⟩ := low1.there
  have apart : a ∉ frs (X.env :: X.outer) := fun m => by
    obtain ⟨_, o', get', no⟩ := low1.2.2.1.mem m
    cases get1.symm.trans get'
    exact no _ data1
  have apartL : a ≠ X.env.locals := fun e => apart (List.mem_filterMap.mpr ⟨_, .head _, fr.trans (congrArg some e.symm)⟩)
  have apartF : a ∉ X.fs := fun m => apart (let ⟨e, h1, h2⟩ := List.mem_filterMap.mp m; List.mem_filterMap.mpr ⟨e, .tail _ h1, h2⟩)
  clear above
  induction hh with
  | stop => exact False.elim wish
  | @cons x c ts first others np cp more told named does rest ih =>
    obtain ⟨b, ask, yes, no⟩ := wish
    refine wpAny_handleBy_cons (codeAny_handlers_test ?_) (fun z => nomatch z)
    have answer := PySem.W.exm_one (M := model X.prog X.w) landed1.kIn (fun A Q E t' keep z => wpAny_typeOf_ref (keep _ _ get1) (is1.1.symm ▸ z)) ask
    have inside := landed1.suite get1 data1 fresh apartL apartF
    have look : ∀ {Q E : Value → Shared → Prop}, Q c { t with heap := g1 } → wpAny (model X.prog X.w) (X.A.mark (some (.ref a))) (eval (.Name x np) X.env) Q E { t with heap := g1 } := fun {Q E} z =>
      match named with
      | ⟨gl, db, .inl m⟩ => ld_glob (X := X.suite a ((a, o1) :: (X.pn ++ pins))) inside gl m z db
      | ⟨gl, db, .inr ⟨m, bv, nn⟩⟩ => ld_blt (X := X.suite a ((a, o1) :: (X.pn ++ pins))) inside gl m bv z nn db
    refine look (answer.here ?_)
    cases b with
    | false => exact ih (no rfl)
    | true =>
      refine codeAny_handlers_suite_as (HandSPX.lands_againZ low1 fun g2 low2 rise2 => ?_)
      obtain ⟨o2, _, get2, is2, data2⟩ := low2.there
      have inside2 := (lay low2.1 ((rise.trans rise1).trans rise2)).suite get2 data2 fresh apartL apartF
      exact store_ok (X := X.suite a ((a, o2) :: (X.pn ++ pins))) (v := V.ref a) inside2 un at_ (.inl own) rfl (fun t3 inside3 => wpAny_mono ((does a o2 cls d (X.pn ++ pins) is2 ⟨_, data2⟩).run [] t3 _ H1 _ inside3 (yes rfl a fresh (inv.len ▸ (List.getElem?_eq_some_iff.mp at_).1)))
        (fun fl t4 r => suite_gone good un at_ own r) fun _ _ z => z.elim) (.inr own)
theorem ps_try_manyA {body : List Stmt} {h₀ : ExceptHandler} {hds : List ExceptHandler} {l : List (Value × (Addr → Value → Option Addr → TS))} {pos : Pos} {tb : WX → TS} (stk : X.stack = X.env :: X.outer) (fr : X.env.frame = some X.env.locals) (un : X.N.Nodup) (at_ : X.N[i]? = some n) (own : X.env.kindOf n = some .local)
    (hb : ∀ (W : WX) (pn : List (Addr × Obj)) (xe : Value → Shared → Prop), Takes (X.tr pn xe) W → PassesOwn (model X.prog X.w) X.A X.env xe → PSs (X.tr pn xe) body (tb W)) (hh : HdsA X n (h₀ :: hds) l) :
    PS X (.Try body (h₀ :: hds) [] [] pos) (fun D σ H => tb (wManyA X.K i D l) D σ H) :=
  ⟨fun pins s σ H D I h => wpAny_Try_except (wpAny_mono ((hb _ (X.pn ++ pins) _ (clauses_take I.ok stk fr un at_ own hh) PassesOwn.looking).run [] s σ H D (I.toTry _) h)
    (fun fl t r => match fl, r with
      | .next, ⟨_, _, inv, z⟩ => wpAny_execs_nil ⟨_, _, inv.ofTry I.ok, z⟩
      | .brk, ⟨_, _, inv, z⟩ => ⟨_, _, inv.ofTry I.ok, z⟩
      | .cont, ⟨_, _, inv, z⟩ => ⟨_, _, inv.ofTry I.ok, z⟩
      | .ret _, ⟨_, _, _, inv, rv, z⟩ => ⟨_, _, _, inv.ofTry I.ok, rv, z⟩) fun _ _ z => z)⟩
end
end K9

/-! ## L24 -/
set_option maxHeartbeats 2000000
namespace K9
open PySem PySem.Spec PyProof.Rows L2 LamX
theorem sc_l_m_met : FnScope ["_law_work", "e"] ["_law_work"] (defScope s_l_m_met) := ⟨rfl, rfl, rfl, by decide +kernel, rfl, by decide +kernel, by decide +kernel⟩
/-- what _law_m_met makes of what it gets: an exception that is told, its kind and its thing -/
def TMet (N M : Addr) : (XK → Hp → VK → Prop) → Hp → VK → Prop := fun tl H Q =>
  tl (fun cls d H' => ∃ a v, d = some a ∧ H' a = some (.xd [(("thing" : Str), v)]) ∧
    ((cls = .ref N ∧ ∀ t H'', H' t = none → Same H' H'' → H'' t = some (.tup [.str "hand", v]) → Q (.ref t) H'') ∨
     (cls = .ref M ∧ ∀ t H'', H' t = none → Same H' H'' → H'' t = some (.tup [.str "number", v]) → Q (.ref t) H''))) H fun v H1 => 2 ≤ sizeLine ∧ ∀ p, H1 p = none → Q (.ref p) (upd H1 p (.tup [.str "told", v]))
section
variable {X : Cx} (T : Tx X.K X.mg)
include T
theorem met_gives {g : Addr} {cdg : Value} {q : Str} : GivesTo X ["_law_work", "e"] "_law_m_met" (defScope s_l_m_met) g cdg (defBody s_l_m_met) "_law_work" q (TMet (He.ga X.K "NoHand") (He.ga X.K "BadNumber")) := by
  intro f c' s H Q tl act hc h
  refine ⟨_, pss_one (ps_try_manyA (X := (cxOf C8.CX0 X.prog X.w X.K X.mg X.base ["_law_work", "e"] "_law_m_met" (defScope s_l_m_met) g cdg X.A X.stack s H C8.E0).nox) (n := "e") (i := 1)
      (l := [(.ref (He.ga X.K "NoMap"), fun _ _ _ => tNever), (.ref (He.ga X.K "NoHand"), fun a cls d => tRet (tTup (tCons (tC (.str "hand")) (tCons (tXf a cls d (He.ga X.K "NoHand") "thing" (tVar 1)) tNil)))), (.ref (He.ga X.K "BadLot"), fun _ _ _ => tNever), (.ref (He.ga X.K "NoBar"), fun _ _ _ => tNever),
        (.ref (He.ga X.K "BadNumber"), fun a cls d => tRet (tTup (tCons (tC (.str "number")) (tCons (tXf a cls d (He.ga X.K "BadNumber") "thing" (tVar 1)) tNil))))])
      (tb := fun W D σ H => ∃ Ech : XK, (∀ cls d σ' H', Ech cls d H' → W cls d σ' H') ∧ σ[0]? = some (some (.ref f)) ∧ H c' = some (CodeO c' q) ∧ tl Ech H fun v H1 => 2 ≤ sizeLine ∧ ∀ p, H1 p = none → D.rt (.ref p) (upd H1 p (.tup [.str "told", v])))
      rfl rfl sc_l_m_met.nd rfl rfl (fun W pn xe tk _ => ?_) ?_), ?_⟩
  · refine ⟨fun pins s' σ H' D I h' => ?_⟩
    obtain ⟨Ech, hW, h1, h2, h3⟩ := h'
    have key : ∀ p1 p2 p3 p4 p5 j k0, PSs (X := ((cxOf C8.CX0 X.prog X.w X.K X.mg X.base ["_law_work", "e"] "_law_m_met" (defScope s_l_m_met) g cdg X.A X.stack s H C8.E0).nox.tr pn xe)) [.Return (some (.Tuple [.Constant (.str "told") j p3, .Call (.Name "_law_work" p1) [] [] p2] k0 p4)) p5] _ := fun p1 p2 p3 p4 p5 j k0 => pss_one (ps_ret (pe_tup (pa_cons pe_str (pa_cons (act W pn xe Ech p1 p2 tk hW) pa_nil))))
    exact (key _ _ _ _ _ _ _).run pins s' σ H' D I ⟨h1, h2, h3⟩
  · refine .cons ⟨rfl, by decide, .inl (T.G "NoMap")⟩ (fun _ _ _ _ _ _ _ => pss_never) (.cons ⟨rfl, by decide, .inl (T.G "NoHand")⟩ (fun a oe cls d pn hz hf => ?_) (.cons ⟨rfl, by decide, .inl (T.G "BadLot")⟩ (fun _ _ _ _ _ _ _ => pss_never) (.cons ⟨rfl, by decide, .inl (T.G "NoBar")⟩ (fun _ _ _ _ _ _ _ => pss_never) (.cons ⟨rfl, by decide, .inl (T.G "BadNumber")⟩ (fun a oe cls d pn hz hf => ?_) .stop))))
    · exact pss_one (ps_ret (pe_tup (pa_cons pe_str (pa_cons (pe_xf T.eH.xf T.eH.no hz hf (pv 1)) pa_nil))))
    · exact pss_one (ps_ret (pe_tup (pa_cons pe_str (pa_cons (pe_xf T.eN.xf T.eN.no hz hf (pv 1)) pa_nil))))
  · refine ⟨_, fun cls d σ' H' ⟨a0, v, e1, hx, hk⟩ => ?_, rfl, hc, h⟩
    subst e1
    rcases hk with ⟨rfl, k⟩ | ⟨rfl, k⟩
    · refine ⟨false, T.x1, fun z => (by cases z), fun _ => ⟨true, T.x2, fun _ a na hl => ?_, fun z => (by cases z)⟩⟩
      refine ⟨.ref a, List.getElem?_set_self hl, rfl, rfl, a0, _, v, rfl, hx, rfl, sz2, fun p np => ?_⟩
      exact k p _ np (same_new np) upd_same
    · refine ⟨false, T.y1, fun z => (by cases z), fun _ => ⟨false, T.y2, fun z => (by cases z), fun _ => ⟨false, T.y3, fun z => (by cases z), fun _ => ⟨false, T.y4, fun z => (by cases z), fun _ => ⟨true, T.y5, fun _ a na hl => ?_, fun z => (by cases z)⟩⟩⟩⟩⟩
      refine ⟨.ref a, List.getElem?_set_self hl, rfl, rfl, a0, _, v, rfl, hx, rfl, sz2, fun p np => ?_⟩
      exact k p _ np (same_new np) upd_same
end
end K9

/-! ## L25 -/
set_option maxHeartbeats 2000000
/-! plain: maps whose lists are put in order say the same -/
namespace K9
open PySem PySem.Spec PyProof.Rows L2
theorem any_srt (l : List Str) (p : Str → Bool) : (srt l).any p = l.any p := by
  rw [Bool.eq_iff_iff, List.any_eq_true, List.any_eq_true]
  exact ⟨fun ⟨x, h1, h2⟩ => ⟨x, mem_srt.mp h1, h2⟩, fun ⟨x, h1, h2⟩ => ⟨x, mem_srt.mpr h1, h2⟩⟩
theorem beh_srtm (hs : List Str) (m : Mp) (lot : List Str) : KM.beh hs (srtm m) lot = KM.beh hs m lot := by
  unfold KM.beh
  exact List.filter_congr fun x _ => any_srt _ _
theorem kp_srtm (hs : List Str) (ms : List Mp) : ∀ (r : Nat) (lot : List Str), KM.kp hs (ms.map srtm) r lot = KM.kp hs ms r lot
  | 0, _ => rfl
  | r + 1, lot => by
    show (_ && (ms.map srtm).any fun m => KM.kp hs (ms.map srtm) r (KM.beh hs m lot)) = (_ && ms.any fun m => KM.kp hs ms r (KM.beh hs m lot))
    rw [List.any_map]
    refine congrArg _ (congrArg (fun f => ms.any f) (funext fun m => ?_))
    show KM.kp hs (ms.map srtm) r (KM.beh hs (srtm m) lot) = _
    rw [beh_srtm, kp_srtm hs ms r]
theorem ix_srtm (hs : List Str) (ms : List Mp) (r : Nat) (lot : List Str) : KM.ix hs (ms.map srtm) r lot = KM.ix hs ms r lot := by
  unfold KM.ix
  rw [List.findIdx_map]
  refine congrArg (fun f => List.findIdx f ms) (funext fun m => ?_)
  show KM.kp hs (ms.map srtm) r (KM.beh hs (srtm m) lot) = _
  rw [beh_srtm, kp_srtm]
theorem srt_one (x : Str) : srt [x] = [x] := by
  have h := srt_perm [x]
  exact List.perm_singleton.mp h
theorem nth_srtm (hs : List Str) (ms : List Mp) (i : Nat) (lot : List Str) : KM.beh hs (KM.nth (ms.map srtm) i) lot = KM.beh hs (KM.nth ms i) lot := by
  unfold KM.nth
  by_cases h : i < ms.length
  · rw [List.getD_eq_getElem?_getD, List.getD_eq_getElem?_getD, List.getElem?_map, List.getElem?_eq_getElem h]
    exact beh_srtm ..
  · rw [List.getD_eq_getElem?_getD, List.getD_eq_getElem?_getD, List.getElem?_map, List.getElem?_eq_none (by omega)]
    rfl
theorem gr_srtm (hs : List Str) (ms : List Mp) : ∀ (r : Nat) (lot : List Str), KM.gr hs (ms.map srtm) r lot = KM.gr hs ms r lot
  | 0, _ => rfl
  | r + 1, lot => by
    show KM.ix hs (ms.map srtm) r lot :: KM.gr hs (ms.map srtm) r (KM.beh hs (KM.nth (ms.map srtm) (KM.ix hs (ms.map srtm) r lot)) lot) = _
    rw [ix_srtm, nth_srtm, gr_srtm hs ms r]
    rfl
theorem src_srtm (hs : List Str) (m : Mp) (x : Str) : KM.Src hs (srtm m) x ↔ KM.Src hs m x := by
  unfold KM.Src
  have e : ∀ a o, a ∈ srtm m o ↔ a ∈ m o := fun a o => mem_srt
  constructor
  · intro h S h1 h2
    exact h S h1 fun x hx o ho hm => h2 x hx o ho ((e x o).mp hm)
  · intro h S h1 h2
    exact h S h1 fun x hx o ho hm => h2 x hx o ho ((e x o).mpr hm)
theorem src_srt (xs : List Str) (m : Mp) (x : Str) : KM.Src (srt xs) m x ↔ KM.Src xs m x := by
  unfold KM.Src
  constructor
  · intro h S h1 h2 y hy
    exact h S h1 (fun x hx o ho hm => h2 x hx o (mem_srt.mp ho) hm) y (mem_srt.mpr hy)
  · intro h S h1 h2 y hy
    exact h S h1 (fun x hx o ho hm => h2 x hx o (mem_srt.mpr ho) hm) y (mem_srt.mp hy)
/-- the world of hands xs and maps ms -/
theorem wd_of {xs : List Str} {ms : List Mp} (nd : xs.Nodup) (h2 : 2 ≤ xs.length) (h4 : xs.length ≤ 4) (so : SO xs) (g : MG xs ms) (ne : ms ≠ []) (l5 : ms.length ≤ 5) : Wd (srt xs) ms :=
  ⟨⟨srt_nd nd, ne, fun m hm k hk => (g.gm m hm).self k (mem_srt.mp hk), fun m hm k hk o ho => mem_srt.mpr ((g.gm m hm).sub k (mem_srt.mp hk) o ho)⟩, srt_srt xs, by rw [srt_len]; exact h2, by rw [srt_len]; exact h4, l5, fun x hx => so x (mem_srt.mp hx), fun m hm k hk => by have := g.len m hm k (mem_srt.mp hk); omega⟩
theorem MG.srtm {xs : List Str} {ms : List Mp} (g : MG xs ms) : MG xs (ms.map srtm) := by
  refine ⟨fun m hm => ?_, fun m hm k hk => ?_⟩ <;> obtain ⟨m0, h0, rfl⟩ := List.mem_map.mp hm
  · exact ⟨fun k hk => mem_srt.mpr ((g.gm m0 h0).self k hk), fun k hk o ho => (g.gm m0 h0).sub k hk o (mem_srt.mp ho), fun k hk => srt_nd ((g.gm m0 h0).nd k hk)⟩
  · show (srt (m0 k)).length ≤ 5
    rw [srt_len]
    exact g.len m0 h0 k hk
/-! ### what the stream does not touch -/
theorem strs_nin {H : Hp} {p q a : Addr} {c : Nat} {xs : List Str} (st : Stm H p q c) (ne : xs ≠ []) (h : Strs H a xs) : a ∉ [p, q] := by
  obtain ⟨ns, n, m, h1, h2, _⟩ := st.ex
  obtain ⟨x, r, rfl⟩ := List.exists_cons_of_ne_nil ne
  intro z
  simp only [List.mem_cons, List.not_mem_nil, or_false] at z
  have h' : H a = some (.lst ((x :: r).map V.str)) := h
  rcases z with rfl | rfl
  · rw [h1] at h'
    cases h'
  · rw [h2] at h'
    have e := HO.lst.inj (Option.some.inj h')
    cases ns with
    | nil => cases e
    | cons y t => cases e
theorem refs_nin {H : Hp} {p q a : Addr} {c : Nat} {ds : List Addr} (st : Stm H p q c) (ne : ds ≠ []) (h : H a = some (.lst (ds.map V.ref))) : a ∉ [p, q] := by
  obtain ⟨ns, n, m, h1, h2, _⟩ := st.ex
  obtain ⟨x, r, rfl⟩ := List.exists_cons_of_ne_nil ne
  intro z
  simp only [List.mem_cons, List.not_mem_nil, or_false] at z
  rcases z with rfl | rfl
  · rw [h1] at h
    have e := HO.lst.inj (Option.some.inj h)
    cases r with
    | nil => cases e
    | cons y t => cases e
  · rw [h2] at h
    have e := HO.lst.inj (Option.some.inj h)
    cases ns with
    | nil => cases e
    | cons y t => cases e
theorem kind_nin {H : Hp} {p q a : Addr} {c : Nat} {o : HO} (st : Stm H p q c) (h : H a = some o) (n : ∀ xs, o ≠ .lst xs) : a ∉ [p, q] := by
  obtain ⟨ns, n', m, h1, h2, _⟩ := st.ex
  intro z
  simp only [List.mem_cons, List.not_mem_nil, or_false] at z
  rcases z with rfl | rfl
  · rw [h1] at h
    exact n _ (Option.some.inj h).symm
  · rw [h2] at h
    exact n _ (Option.some.inj h).symm
theorem WorldAt.hidq {C : Addr} {H : Hp} {x p q : Addr} {c : Nat} {hs : List Str} {ms : List Mp} (st : Stm H p q c) (h : WorldAt C H x hs ms) (n1 : hs ≠ []) (n2 : ms ≠ []) (n3 : ∀ m ∈ ms, ∀ k ∈ hs, m k ≠ []) : WorldAt C (hid [p, q] H) x hs ms := by
  obtain ⟨dx, lh, lm, h1, h2, ds, h3, h4⟩ := h
  have nds : ds ≠ [] := fun e => by
    rw [e] at h4
    cases h4
    exact n2 rfl
  refine ⟨dx, lh, lm, hid_of (kind_nin st h1 (fun _ z => by cases z)) h1, hid_of (strs_nin st n1 h2) h2, ds, hid_of (refs_nin st nds h3) h3, ?_⟩
  have gen : ∀ {l : List Addr} {l2 : List Mp}, (∀ m ∈ l2, m ∈ ms) → Paired (MapA H hs) l l2 → Paired (MapA (hid [p, q] H) hs) l l2 := by
    intro l l2 hsub hp
    induction hp with
    | nil => exact .nil
    | @cons d m _ _ r t ih =>
      obtain ⟨ad, r1, r2⟩ := r
      refine .cons ⟨ad, hid_of (kind_nin st r1 (fun _ z => by cases z)) r1, fun k hk => hid_of (strs_nin st (n3 m (hsub m List.mem_cons_self) k hk) (r2 k hk)) (r2 k hk)⟩ (ih fun m' h' => hsub m' (List.mem_cons_of_mem _ h'))
  exact gen (fun _ h => h) h4
/-! ### over the making of lambdas -/
theorem Stm.ext {H H' : Hp} {p q : Addr} {c : Nat} (e : LamX.ExtN H H') (h : Stm H p q c) : Stm H' p q c := let ⟨ns, n, m, h1, h2, h3⟩ := h.ex; ⟨⟨ns, n, m, e _ _ h1 (fun _ z => by cases z), e _ _ h2 (fun _ z => by cases z), h3⟩, h.ne⟩
theorem Odd.ext {H H' : Hp} {v : V} {n : String} (s : LamX.ExtN H H') (o : Odd H v n) : Odd H' v n := by
  cases o with
  | non => exact .non
  | bl b => exact .bl b
  | int i => exact .int i
  | str z => exact .str z
  | lst h => exact .lst (s _ _ h (fun _ z => by cases z))
  | tup h => exact .tup (s _ _ h (fun _ z => by cases z))
  | dK h => exact .dK (s _ _ h (fun _ z => by cases z))
theorem Sm.ext {H H' : Hp} (s : LamX.ExtN H H') : ∀ {d : Nat} {v w : V}, Sm H d v w → Sm H' d v w
  | _, _, _, .non => .non
  | _, _, _, .bl b => .bl b
  | _, _, _, .int i => .int i
  | _, _, _, .str z => .str z
  | _, _, _, .lst ha hb e l h => .lst (s _ _ ha (fun _ z => by cases z)) (s _ _ hb (fun _ z => by cases z)) e l fun i x y h1 h2 => (h i x y h1 h2).ext s
  | _, _, _, .tup ha hb e l h => .tup (s _ _ ha (fun _ z => by cases z)) (s _ _ hb (fun _ z => by cases z)) e l fun i x y h1 h2 => (h i x y h1 h2).ext s
theorem WorldAt.ext {C : Addr} {H H' : Hp} {x : Addr} {hs : List Str} {ms : List Mp} (s : LamX.ExtN H H') (h : WorldAt C H x hs ms) : WorldAt C H' x hs ms := by
  obtain ⟨dx, lh, lm, h1, h2, ds, h3, h4⟩ := h
  exact ⟨dx, lh, lm, s _ _ h1 (fun _ z => by cases z), s _ _ h2 (fun _ z => by cases z), ds, s _ _ h3 (fun _ z => by cases z), L2.Paired.mapP h4 fun d m ⟨ad, r1, r2⟩ => ⟨ad, s _ _ r1 (fun _ z => by cases z), fun k hk => s _ _ (r2 k hk) (fun _ z => by cases z)⟩⟩
theorem tabs_kp {H H' : Hp} {p q Pt : Addr} {c : Nat} {nm : Str} (st : Stm H p q c) (s : Kp p q H H') (t : LamX.Tabs [(Pt, nm)] H) : LamX.Tabs [(Pt, nm)] H' := fun y hy => by
  obtain ⟨ps, h1, h2, h3⟩ := t y hy
  refine ⟨ps, kp_at s (kind_nin st h1 (fun _ z => by cases z)) h1, h2, fun pos cv hc => ?_⟩
  obtain ⟨c', e1, e2⟩ := h3 pos cv hc
  exact ⟨c', e1, kp_at s (kind_nin st e2 (fun _ z => by unfold LamX.CodeO at z; cases z)) e2⟩
/-- the odd things that are asked -/
structure OddV (H : Hp) (hs : List Str) (v : V) : Prop where
  o : ∃ n, Odd H v n
  hb : handB v hs = false
  nb : numB v = false
  z : ∀ y, v = .str y → y.length ≤ 1000
  s : Sm H 1 v v
theorem OddV.mono {H H' : Hp} {hs : List Str} {v : V} (s : Same H H') (h : OddV H hs v) : OddV H' hs v := ⟨let ⟨n, o⟩ := h.o; ⟨n, o.mono s⟩, h.hb, h.nb, h.z, h.s.mono s⟩
theorem OddV.ext {H H' : Hp} {hs : List Str} {v : V} (s : LamX.ExtN H H') (h : OddV H hs v) : OddV H' hs v := ⟨let ⟨n, o⟩ := h.o; ⟨n, o.ext s⟩, h.hb, h.nb, h.z, h.s.ext s⟩
theorem tlV_non (L : Int) : decide (tlV L = .non) = decide (L = KM.FE) := by
  unfold tlV
  by_cases h : L = KM.FE
  · rw [if_pos h, decide_eq_true h, decide_eq_true rfl]
  · rw [if_neg h, decide_eq_false h, decide_eq_false (fun z => by cases z)]
theorem tlV_int {L : Int} (h : L ≠ KM.FE) : tlV L = .int (L + 1) := by unfold tlV; rw [if_neg h]
theorem tlV_fe {L : Int} (h : L = KM.FE) : tlV L = .non := by unfold tlV; rw [if_pos h]
/-- the first round that is not late -/
theorem due_law {hs : List Str} {ms : List Mp} (W : Wd hs ms) {z : Str} (hz : z ∈ hs) {most : Nat} (hm : hs.length ≤ most + 1) (hm2 : most ≤ 100) :
    ((List.range (most + 1)).filter fun r => !KM.kp hs ms r [z]).head? = if KM.LV W.G [z] = KM.FE then none else some (KM.LV W.G [z] + 1).toNat := by
  have hzl : [z].Sublist hs := List.singleton_sublist.mpr hz
  have h4 := W.h4
  have hb := KM.LV_bound W.G (by unfold KM.FE; omega) _ (Nat.le_refl _) hzl
  have he := KM.due_eq (L := KM.LV W.G [z]) (t := 0) (most := most) (fun r => !KM.kp hs ms r [z]) (fun r hr => by
    rw [KM.LV_keep W.G hzl r (by unfold KM.FE; omega), Bool.not_eq_true']
    cases KM.kp hs ms r [z] <;> simp)
  rw [he]
  have h1 : ([z] : List Str).length = 1 := rfl
  rw [h1] at hb
  rcases hb with h | ⟨h, h'⟩
  · rw [if_pos h, if_pos (by rw [h]; unfold KM.FE; omega)]
  · have hne : KM.LV W.G [z] ≠ KM.FE := by unfold KM.FE; omega
    rw [if_neg hne, if_neg (by omega)]
    by_cases h0 : KM.LV W.G [z] < 0
    · rw [if_pos h0]
      congr 1
      omega
    · rw [if_neg h0]
theorem told_le {hs : List Str} {ms : List Mp} (W : Wd hs ms) {z : Str} (hz : z ∈ hs) (h : KM.LV W.G [z] ≠ KM.FE) : -1 ≤ KM.LV W.G [z] ∧ KM.LV W.G [z] ≤ (hs.length : Int) - 2 := by
  have hzl : [z].Sublist hs := List.singleton_sublist.mpr hz
  have h4 := W.h4
  have hb := KM.LV_bound W.G (by unfold KM.FE; omega) _ (Nat.le_refl _) hzl
  have h1 : ([z] : List Str).length = 1 := rfl
  rw [h1] at hb
  rcases hb with h' | ⟨h1, h2⟩
  · exact absurd h' h
  · exact ⟨h1, by omega⟩
theorem gr_len (hs : List Str) (ms : List Mp) : ∀ (r : Nat) (lot : List Str), (KM.gr hs ms r lot).length = r
  | 0, _ => rfl
  | r + 1, lot => by
    rw [KM.gr, List.length_cons, gr_len hs ms r]
theorem sm_row {H : Hp} {a b : Addr} {g : List Nat} {d : Nat} (ha : H a = some (.lst (rowV g))) (hb : H b = some (.lst (rowV g))) (l : g.length ≤ 100) : Sm H (d + 1) (.ref a) (.ref b) := by
  refine .lst ha hb rfl (by unfold rowV; rw [List.length_map]; exact l) fun i x y h1 h2 => ?_
  rw [h1] at h2
  cases h2
  obtain ⟨n, _, rfl⟩ := map_at h1
  exact .int _
theorem sure_any {xs hs : List Str} {ms : List Mp} (hhs : hs = srt xs) (W : Wd hs ms) {z : Str} (hz : z ∈ hs) : (ms.any fun m => !decide (z ∈ srcs xs m)) = decide (KM.LV W.G [z] = KM.FE) := by
  have h4 := W.h4
  have hn := KM.never_iff W.G (by unfold KM.FE; omega) hz
  rw [Bool.eq_iff_iff, List.any_eq_true, decide_eq_true_eq, hn]
  have key : ∀ m, (!decide (z ∈ srcs xs m)) = true ↔ ¬ KM.Src hs m z := fun m => by
    rw [Bool.not_eq_true', decide_eq_false_iff_not, mem_srcs, hhs, src_srt]
    have hzx : z ∈ xs := by rw [hhs] at hz; exact mem_srt.mp hz
    exact ⟨fun h e => h ⟨hzx, e⟩, fun h e => h e.2⟩
  exact ⟨fun ⟨m, h1, h2⟩ => ⟨m, h1, (key m).mp h2⟩, fun ⟨m, h1, h2⟩ => ⟨m, h1, (key m).mpr h2⟩⟩
theorem extN_hid {S : List Addr} {H H' : Hp} (e : LamX.ExtN H H') : LamX.ExtN (hid S H) (hid S H') := fun b o h n => hid_of (hid_at h).1 (e b o (hid_at h).2 n)
theorem tabs_upd {H : Hp} {Pt l : Addr} {nm : Str} {xs : List V} {o : HO} (t : LamX.Tabs [(Pt, nm)] H) (hl : H l = some (.lst xs)) : LamX.Tabs [(Pt, nm)] (upd H l o) := fun y hy => by
  obtain ⟨ps, h1, h2, h3⟩ := t y hy
  refine ⟨ps, by rw [upd_ne (ne_of h1 hl (fun z => by cases z))]; exact h1, h2, fun pos cv hc => ?_⟩
  obtain ⟨c', e1, e2⟩ := h3 pos cv hc
  exact ⟨c', e1, by rw [upd_ne (ne_of e2 hl (fun z => by unfold LamX.CodeO at z; cases z))]; exact e2⟩
end K9

/-! ## L26 -/
set_option maxHeartbeats 4000000
namespace K9
open PySem PySem.Spec PyProof.Rows L2
section
variable {P : Program} {w : World} {K : PySem.W.Frag} {mg : Str → Option Value} {base : Heap}
theorem sc_law : FnScope ["_law_script", "_law_stream", "_law_turn", "_law_hands_here", "_law_maps_here", "_law_sure", "_law_most", "_law_late", "_law_rounds", "_law_due", "_law_told", "_law_found", "_law_hand", "_law_odd", "_law_world", "_law_some"] ["_law_script"] (defScope s_law) := ⟨rfl, rfl, rfl, by decide +kernel, rfl, by decide +kernel, by decide +kernel⟩
def lamQ : Str := "law.<locals>.<lambda>"
def spLaw (K : PySem.W.Frag) (Pt : Addr) : Sp := fun vs H Q _ => ∃ (a : Addr) (ns : List Int), vs = [.ref a] ∧ SqL K H a (ns.map V.int) ∧ H Pt = some (.tbl #[]) ∧ ∀ H', Q (.bl true) H'
theorem law_binds {fd : FuncData} (F : FunD K "law" "law" (defArgs s_law) (defBody s_law) (defScope s_law) [] [] (He.ga K "law") fd) (s : Shared) (u : Value) : BindsTo s fd ⟨[u], []⟩ [("_law_script", u)] :=
  F.bindsA (ps := ["_law_script"]) (fun kV doc pm an cdv ct us hl => match us, hl with | [_], _ => rfl) s [u] rfl
theorem ok_law (T : Tx K mg) {c Pt : Addr} {fd : FuncData} (F : FunD K "law" "law" (defArgs s_law) (defBody s_law) (defScope s_law) [] [] (He.ga K "law") fd) (hc : He.codeOf K ("law", none) = c) (TB : LamX.TabB base mg c Pt) : FnOk P w K mg base CX0 12 (He.ga K "law") fd ["_law_script"] (spLaw K Pt) := by
  obtain ⟨oc, od, dV, kV, doc, pm, an, cdv, ct, osl, rfl, lk, hcd, hD, hK⟩ := F.ex
  obtain ⟨c0, rfl⟩ := He.codeIn_ref hcd
  obtain rfl : c0 = c := (He.codeOf_eq (p := ("law", none)) (K := K) lk rfl).symm.trans hc
  obtain ⟨fm, Fm0⟩ := T.f d_l_m_met (by unfold fn; simp)
  have Fm : FunD K "_law_m_met" "_law_m_met" (defArgs s_l_m_met) (defBody s_l_m_met) (defScope s_l_m_met) [] [] (He.ga K "_law_m_met") fm := Fm0
  have bMet := Fm.bindsN (ps := ["_law_work"]) (fun kV doc pm an cdv ct us hl => match us, hl with | [_], _ => rfl)
  obtain ⟨oc2, od2, dV2, kV2, doc2, pm2, an2, cdv2, ct2, osl2, rfl, lk2, hcd2, hD2, hK2⟩ := Fm.ex
  obtain ⟨fdI, bI, FI⟩ := ok_Maps_init (P := P) (w := w) (base := base) T
  refine fn_of lk hcd sc_law (fun vs H Q E ⟨_, _, h, _⟩ => by subst h; rfl) fun A outer s H vs Q E hr h => ?_
  obtain ⟨a, ns, rfl, ha, hPt, k⟩ := h
  refine ⟨_, PSs.nox (pss_cons (ps_set (i := 1) sc_law.nd rfl (by first | exact Or.inl rfl | exact Or.inr rfl) (pe_c (ok_l_start T) (hr.mono (by first | decide | omega)) pass0 (pa_cons (pv 0) pa_nil)))
    (pss_cons (ps_for PassesOwn.never rfl (pi_range1 rfl (T.Z "range") (pa_cons pe_int pa_nil)) (pg_name (i := 2) sc_law.nd rfl (by first | exact Or.inl rfl | exact Or.inr rfl))
      (pss_cons (ps_asg (pe_c (ok_l_m_world T) (hr.mono (by first | decide | omega)) pass0 (pa_cons (pv 1) (pa_cons pe_int (pa_cons pe_int pa_nil)))) (pg_tupk K (n := 3) rfl (pgs_cons (pg_name (i := 3) sc_law.nd rfl (by first | exact Or.inl rfl | exact Or.inr rfl)) (pgs_cons (pg_name (i := 4) sc_law.nd rfl (by first | exact Or.inl rfl | exact Or.inr rfl)) (pgs_cons (pg_name (i := 5) sc_law.nd rfl (by first | exact Or.inl rfl | exact Or.inr rfl)) pgs_nil)))))
      (pss_cons (ps_asg (pe_tup (pa_cons (pe_make T.mkM FI (hr.mono (by first | decide | omega)) rfl (T.G "Maps") bI .nil pass0 (pa_cons (pv 3) (pa_cons (pv 4) pa_nil))) (pa_cons (pe_c (ok_l_pick T) (hr.mono (by first | decide | omega)) pass0 (pa_cons (pv 1) (pa_cons (pv 3) pa_nil))) pa_nil))) (pg_tupk K (n := 2) rfl (pgs_cons (pg_name (i := 14) sc_law.nd rfl (by first | exact Or.inl rfl | exact Or.inr rfl)) (pgs_cons (pg_name (i := 12) sc_law.nd rfl (by first | exact Or.inl rfl | exact Or.inr rfl)) pgs_nil))))
      (pss_cons (ps_set (i := 6) sc_law.nd rfl (by first | exact Or.inl rfl | exact Or.inr rfl) (pe_op op_add (pe_op op_sub (pe_callB (call_len_seqk K) (by rfl) (T.Z "len") bt_len (pa_cons (pv 3) pa_nil)) pe_int) (pe_c (ok_l_draw T) (hr.mono (by first | decide | omega)) pass0 (pa_cons (pv 1) (pa_cons pe_int pa_nil)))))
      (pss_cons (ps_set (i := 7) sc_law.nd rfl (by first | exact Or.inl rfl | exact Or.inr rfl) (pe_c (ok_l_late_lots T) (hr.mono (by first | decide | omega)) pass0 (pa_cons (pv 4) (pa_cons (pv 6) pa_nil))))
      (pss_cons (ps_set (i := 9) sc_law.nd rfl (by first | exact Or.inl rfl | exact Or.inr rfl) (pe_slice (sl_listk K) (pe_lc (own := [("_law_rounds", 8)])  rfl sc_law.nd (pi_range1 rfl (T.Z "range") (pa_cons (pe_op op_add (pv 6) pe_int) pa_nil)) (blkOk_by (by kernel_rfl)) (fun _ _ _ _ _ => (pg_name (i := 8) sc_law.nd rfl (by first | exact Or.inl rfl | exact Or.inr rfl))) (fun _ _ _ _ _ => (pts_one (pt_cmpR (op_notInDk K hr.units65) (pe_lst (pa_cons (pv 12) pa_nil)) (pe_ix (ix_listk K) (pv 7) (pv 8) (fun _ _ => rfl)) (by rfl)))) (fun _ _ _ _ _ => (pv 8))) po_none (po_some pe_int)))
      (pss_cons (ps_set (i := 10) sc_law.nd rfl (by first | exact Or.inl rfl | exact Or.inr rfl) (pe_c (ok_told_rounds T) (hr.mono (by first | decide | omega)) (passes_call (E := fun _ _ _ => False) LamX.takes0 (fun _ _ _ _ h => h)) (pa_cons (pv 14) (pa_cons (pv 12) pa_nil))))
      (pss_cons (ps_if (pt_not (pt_val (pe_c (ok_l_same T 3) (hr.mono (by first | decide | omega)) pass0 (pa_cons (pv 10) (pa_cons (pe_ifExp (pt_cmpR (op_neDk K hr.units64) (pv 9) (pe_lst pa_nil) (nomark _)) (pe_ix (ix_listk K) (pv 9) pe_int (fun _ _ => rfl)) pe_non) pa_nil))))) (pss_one (ps_ret pe_bl)) pss_nil)
      (pss_cons (ps_if (PW.pt (pw_or (pt_cmpR op_ne (pe_cmpR op_isN (pv 10) pe_non (nomark _)) (pe_callB (cr_anyk K rfl) (by rfl) (T.Z "any") bt_any (pa_cons (pe_lc (own := [("_law_some", 15)])  rfl sc_law.nd (pi_listk K (pv 5)) (blkOk_by (by kernel_rfl)) (fun _ _ _ _ _ => (pg_name (i := 15) sc_law.nd rfl (by first | exact Or.inl rfl | exact Or.inr rfl))) (fun _ _ _ _ _ => pts_nil) (fun _ _ _ _ _ => (pe_cmpR (op_notIn_seqk K) (pv 12) (pv 15) (by rfl)))) pa_nil)) (nomark _)) (pw_or1 (PW.pt (pw_and (pt_cmpR op_notN (pv 10) pe_non (nomark _)) (pw_and1 (pt_cmpR op_gt (pv 10) (pe_op op_sub (pe_callB (call_len_seqk K) (by rfl) (T.Z "len") bt_len (pa_cons (pv 3) pa_nil)) pe_int) (nomark _)))))))) (pss_one (ps_ret pe_bl)) pss_nil)
      (pss_cons (ps_for PassesOwn.never rfl (pi_range1 rfl (T.Z "range") (pa_cons (pe_op op_add (pv 6) pe_int) pa_nil)) (pg_name (i := 8) sc_law.nd rfl (by first | exact Or.inl rfl | exact Or.inr rfl))
        (pss_one (ps_if (pt_not (pt_val (pe_c (ok_l_same T 3) (hr.mono (by first | decide | omega)) pass0 (pa_cons (pe_c (ok_late_row T) (hr.mono (by first | decide | omega)) (passes_call (E := fun _ _ _ => False) LamX.takes0 (fun _ _ _ _ h => h)) (pa_cons (pv 14) (pa_cons (pv 12) (pa_cons (pv 8) pa_nil)))) (pa_cons (pe_c (ok_l_first_late T) (hr.mono (by first | decide | omega)) pass0 (pa_cons (pv 4) (pa_cons (pv 12) (pa_cons (pv 8) (pa_cons (pv 7) pa_nil))))) pa_nil))))) (pss_one (ps_ret pe_bl)) pss_nil)))
      (pss_cons (ps_for PassesOwn.never rfl (pi_range1 rfl (T.Z "range") (pa_cons pe_int pa_nil)) (pg_name (i := 8) sc_law.nd rfl (by first | exact Or.inl rfl | exact Or.inr rfl))
        (pss_one (ps_if (pt_not (pt_val (pe_c (ok_l_same T 3) (hr.mono (by first | decide | omega)) pass0 (pa_cons (pe_c (ok_late_row T) (hr.mono (by first | decide | omega)) (passes_call (E := fun _ _ _ => False) LamX.takes0 (fun _ _ _ _ h => h)) (pa_cons (pv 14) (pa_cons (pv 12) (pa_cons (pv 8) pa_nil)))) (pa_cons (pe_c (ok_l_by_all T) (hr.mono (by first | decide | omega)) pass0 (pa_cons (pv 4) (pa_cons (pv 12) (pa_cons (pv 8) pa_nil)))) pa_nil))))) (pss_one (ps_ret pe_bl)) pss_nil)))
      (pss_cons (ps_set (i := 13) sc_law.nd rfl (by first | exact Or.inl rfl | exact Or.inr rfl) (pe_c (ok_l_pick T) (hr.mono (by first | decide | omega)) pass0 (pa_cons (pv 1) (pa_cons (pe_lst (pa_cons pe_non (pa_cons (pe_un un_neg pe_int) (pa_cons pe_bl (pa_cons pe_str (pa_cons (pe_lst pa_nil) (pa_cons (pe_op op_sub pe_int (pe_op op_pow pe_int pe_int)) pa_nil))))))) pa_nil))))
      (pss_cons (ps_set (i := 11) sc_law.nd rfl (by first | exact Or.inl rfl | exact Or.inr rfl) (pe_lst (pa_cons (LamX.pe_lamcall (k := 7) (T := [(Pt, lamQ)]) rfl (T.G "_law_m_met") Fm.kp lk2 hcd2 bMet sc_l_m_met rfl (.inl rfl) (met_gives T) TB rfl (.head _) (fun p hp _ => by rw [List.mem_singleton.mp hp]; rfl) (hr.mono (by first | decide | omega)) (LamX.lamS_by (by kernel_rfl)) rfl (fun _ _ _ _ _ => rfl) (fun A outer s H E f c' hr2 => pe_c (ok_late_row T) (hr2.mono (by first | decide | omega)) (passes_call (takes_of rfl rfl rfl rfl) (fun _ _ _ _ h => h)) (pa_cons (pv 14) (pa_cons pe_str (pa_cons (pv 13) pa_nil))))) pa_nil)))
      (pss_cons (ps_expr (pe_bmk K PySem.F.plainAttrs_list PySem.F.slot_list_append PySem.F.type_list_append mt_append (pv 11) (pa_cons (LamX.pe_lamcall (k := 7) (T := [(Pt, lamQ)]) rfl (T.G "_law_m_met") Fm.kp lk2 hcd2 bMet sc_l_m_met rfl (.inl rfl) (met_gives T) TB rfl (.head _) (fun p hp _ => by rw [List.mem_singleton.mp hp]; rfl) (hr.mono (by first | decide | omega)) (LamX.lamS_by (by kernel_rfl)) rfl (fun _ _ _ _ _ => rfl) (fun A outer s H E f c' hr2 => pe_c (ok_told_rounds T) (hr2.mono (by first | decide | omega)) (passes_call (takes_of rfl rfl rfl rfl) (fun _ _ _ _ h => h)) (pa_cons (pv 14) (pa_cons (pv 13) pa_nil)))) pa_nil)))
      (pss_cons (ps_expr (pe_bmk K PySem.F.plainAttrs_list PySem.F.slot_list_append PySem.F.type_list_append mt_append (pv 11) (pa_cons (LamX.pe_lamcall (k := 7) (T := [(Pt, lamQ)]) rfl (T.G "_law_m_met") Fm.kp lk2 hcd2 bMet sc_l_m_met rfl (.inl rfl) (met_gives T) TB rfl (.head _) (fun p hp _ => by rw [List.mem_singleton.mp hp]; rfl) (hr.mono (by first | decide | omega)) (LamX.lamS_by (by kernel_rfl)) rfl (fun _ _ _ _ _ => rfl) (fun A outer s H E f c' hr2 => pe_c (ok_late_row T) (hr2.mono (by first | decide | omega)) (passes_call (takes_of rfl rfl rfl rfl) (fun _ _ _ _ h => h)) (pa_cons (pv 14) (pa_cons (pv 12) (pa_cons (pv 13) pa_nil))))) pa_nil)))
      (pss_one (ps_if (pt_not (pt_val (pe_c (ok_l_same T 3) (hr.mono (by first | decide | omega)) pass0 (pa_cons (pv 11) (pa_cons (pe_lst (pa_cons (pe_tup (pa_cons pe_str (pa_cons pe_str pa_nil))) (pa_cons (pe_tup (pa_cons pe_str (pa_cons (pv 13) pa_nil))) (pa_cons (pe_tup (pa_cons pe_str (pa_cons (pv 13) pa_nil))) pa_nil)))) pa_nil))))) (pss_one (ps_ret pe_bl)) pss_nil)))))))))))))))))
    (pss_one (ps_ret pe_bl)))), ?_⟩
  refine ⟨_, rfl, a, ns, rfl, ha, fun p q H1 np nq s1 st1 => ?_⟩
  have tb1 : LamX.Tabs [(Pt, lamQ)] H1 := fun y hy => by rw [List.mem_singleton.mp hy]; exact LamX.TabS.nil (s1 _ _ hPt)
  refine ⟨3, rfl, by decide, by decide, ?_⟩
  refine for_it (walk_range (lo := 0) (n := 3)) (fun i σ H' => ∃ c' v2 v3 v4 v5 v6 v7 v8 v9 v10 v11 v12 v13 v14, σ = [some (.ref a), some (.ref p), v2, v3, v4, v5, v6, v7, v8, v9, v10, v11, v12, v13, v14, none] ∧ Stm H' p q c' ∧ c' ≤ 1200 * i ∧ LamX.Tabs [(Pt, lamQ)] H')
    ⟨0, none, none, none, none, none, none, none, none, none, none, none, none, none, rfl, st1, Nat.le_refl _, tb1⟩ (fun _ _ _ _ _ => trivial) ?_ ?_
  rotate_left
  · rintro σ H2 ⟨c', v2, v3, v4, v5, v6, v7, v8, v9, v10, v11, v12, v13, v14, rfl, _⟩
    exact k H2
  rintro it x0 σ H2 H2' hit ⟨c', v2, v3, v4, v5, v6, v7, v8, v9, v10, v11, v12, v13, v14, rfl, st2, hc2, tb2⟩ ⟨rfl, rfl⟩
  have hit3 : 1200 * it ≤ 2400 := by omega
  -- the world
  refine ⟨_, rfl, p, q, c', rfl, st2, by omega, fun t lh lm ls xs ms c1 H3 nt ht hlh ndx hx6 hx2 hx4 hM mg3 pw ne3 ml5 hsure st3 hc3 s3 => ?_⟩
  refine ⟨t, _, rfl, SqT.of ht, rfl, _, _, rfl, _, _, rfl, _, _, rfl, rfl, ?_⟩
  have so : SO xs := fun y hy => six_so y (hx6 y hy)
  obtain ⟨hs, hhs⟩ : ∃ hs, hs = srt xs := ⟨_, rfl⟩
  have mem_hs : ∀ {y}, y ∈ hs ↔ y ∈ xs := fun {y} => by rw [hhs]; exact mem_srt
  have hsl : hs.length = xs.length := by rw [hhs]; exact srt_len xs
  have W : Wd hs ms := hhs ▸ wd_of ndx hx2 hx4 so mg3 ne3 ml5
  have W' : Wd hs (ms.map srtm) := hhs ▸ wd_of ndx hx2 hx4 so mg3.srtm (by simpa using ne3) (by simpa using ml5)
  have sixn : ∀ y ∈ six, nameS y = true ∧ y.length ≤ 1000 ∧ y ≠ "zz" ∧ y ≠ "2" := by decide +kernel
  have nmx : NM xs := fun y hy => ⟨(sixn y (hx6 y hy)).1, (sixn y (hx6 y hy)).2.1⟩
  have nms : NM hs := fun y hy => nmx y (mem_hs.mp hy)
  -- Maps(..)
  refine ⟨_, rfl, _, rfl, fun x dx nx ndx2 nxd => ?_⟩
  have sM : Same H3 (upd (upd H3 dx (.own x)) x (.ins (He.ga K "Maps") dx [])) := (same_new ndx2).trans (same_new (by rw [upd_ne nxd.symm]; exact nx))
  have sMx : Same H3 (hid [x] (upd (upd H3 dx (.own x)) x (.ins (He.ga K "Maps") dx []))) := fun b o e => hid_of (by simpa using ne_of_none e nx) (sM _ _ e)
  have hMs : MapsP H3 hs lm ms := (hM.mono hid_le).perm (hhs ▸ (srt_perm xs).symm)
  have gms : GMs (srt xs) ms := ⟨fun m hm => ⟨fun y hy => (mg3.gm m hm).self y (mem_srt.mp hy), fun y hy o ho => mem_srt.mpr ((mg3.gm m hm).sub y (mem_srt.mp hy) o ho), fun y hy => (mg3.gm m hm).nd y (mem_srt.mp hy)⟩, fun m hm y hy => by have := mg3.len m hm y (mem_srt.mp hy); omega, fun m hm y hy o ho => so o ((mg3.gm m hm).sub y (mem_srt.mp hy) o ho), ne3, by omega, pw.imp fun h e => h fun y hy => e y (mem_srt.mpr hy)⟩
  refine ⟨x, dx, lh, lm, xs, ms, rfl, upd_same, sM _ _ (hid_le _ _ hlh), nmx, ndx, hx2, by omega, hhs ▸ hMs.mono sMx, gms, fun H4 s4 W4 => ⟨rfl, ?_⟩⟩
  rw [← hhs] at W4
  have s34 : Same H3 H4 := Same.trans (Same.trans sMx s4) hid_le
  have st4 := st3.mono s34
  -- the hand
  refine ⟨_, rfl, _, rfl, p, q, c1, lh, xs.map V.str, rfl, st4, by omega, same_hid s34 _ _ hlh, by simpa using (show xs ≠ [] from fun e => by rw [e] at hx2; cases hx2), by rw [List.length_map]; omega, fun i1 v1 H5 hv1 st5 s5 => ?_⟩
  obtain ⟨z, hzi, rfl⟩ := map_at hv1
  have hzx : z ∈ xs := at_mem hzi
  have hz : z ∈ hs := mem_hs.mpr hzx
  refine ⟨sz2, fun t2 nt2 => ?_⟩
  have st2' := same_new (o := .tup [V.ref x, V.str z]) nt2
  refine ⟨t2, _, rfl, SqT.of upd_same, rfl, _, _, rfl, _, _, rfl, rfl, ?_⟩
  generalize hH6 : upd H5 t2 (.tup [V.ref x, V.str z]) = H6 at st2'
  have s36 : Kp p q H3 H6 := Same.trans (Same.trans (same_hid s34) s5) (same_hid st2')
  have st6 := st5.mono st2'
  have hs0 : hs ≠ [] := fun e => by rw [e] at hz; cases hz
  have nonempty : ∀ m ∈ ms.map srtm, ∀ y ∈ hs, m y ≠ [] := fun m hm y hy e => by
    have := W'.G.self m hm y hy
    rw [e] at this
    cases this
  have Wh6 : WorldAt (He.ga K "Maps") (hid [p, q] H6) x hs (ms.map srtm) := ((W4.hidq st4 hs0 (by simpa using ne3) nonempty).mono s5).mono (same_hid st2')
  have hlh6 := s36 _ _ hlh
  have hM6 : MapsP (hid [p, q] H6) hs lm ms := (hM.perm (hhs ▸ (srt_perm xs).symm)).mono s36
  have hsure6 := hsure.mono s36
  -- most
  refine ⟨_, rfl, lh, _, rfl, .inl (SqL.of (hid_le _ _ hlh6)), _, _, rfl, rfl, _, rfl, p, q, _, c1 + 1, rfl, by omega, by omega, st6, by omega, fun dd H7 dd0 dd1 st7 s7 => ?_⟩
  refine ⟨_, _, rfl, rfl, ?_⟩
  have Wh7 := (Wh6.mono s7).mono hid_le
  have hlh7 := hid_le _ _ (s7 _ _ hlh6)
  have hM7 := (hM6.mono s7).mono hid_le
  have hsure7 := (hsure6.mono s7).mono hid_le
  have s27 : Kp p q H2' H7 := Same.trans (Same.trans s3 s36) s7
  obtain ⟨most, hmost⟩ : ∃ most : Nat, ((xs.map V.str).length : Int) - 1 + dd = (most : Int) := ⟨(((xs.map V.str).length : Int) - 1 + dd).toNat, by rw [List.length_map]; omega⟩
  have hmost2 : hs.length ≤ most + 1 ∧ most ≤ 7 := by rw [List.length_map] at hmost; omega
  -- late
  refine ⟨_, rfl, _, rfl, lm, hs, ms, most, W, (show [V.ref lm, V.int (((xs.map V.str).length : Int) - 1 + dd)] = [V.ref lm, V.int (most : Int)] by rw [hmost]), hM7, by omega, fun la Ls H8 nla s8 hLs hLl late => ?_⟩
  -- due
  obtain ⟨qs, hqs, hqL⟩ := hLs
  have h4 := W.h4
  have hms5 := W.m5
  have hzl : [z].Sublist hs := List.singleton_sublist.mpr hz
  refine ⟨_, rfl, _, _, rfl, rfl, ((most + 1 : Nat) : Int), (show [V.int (((xs.map V.str).length : Int) - 1 + dd + 1)] = [V.int ((most + 1 : Nat) : Int)] by rw [hmost]; rfl), by omega, by omega, ?_⟩
  rw [Int.toNat_natCast]
  refine lcv (walk_range (lo := 0) (n := most + 1)) (by omega) (fun r => !KM.kp hs ms r [z]) (fun r => .int (r : Int)) (fun _ _ => trivial) (fun i H x H' _ y => by rw [y.1]; exact .refl _) ?_ ?_
  · rintro r y H9 H9' hr s9 ⟨rfl, rfl⟩ Kt Kf kt kf
    have hrL : r < Ls.length := by omega
    obtain ⟨Lr, hLr⟩ : ∃ L, Ls[r]? = some L := ⟨_, List.getElem?_eq_getElem hrL⟩
    obtain ⟨qr, hqr, hLo⟩ := paired_at' hqL hLr
    have lateR := late r Lr hLr
    refine ⟨rfl, ?_⟩
    refine ⟨_, rfl, sz1, fun b nb => ?_⟩
    have sb := same_new (o := .lst [V.str z]) nb
    have s9b := s9.trans sb
    refine ⟨_, rfl, _, rfl, la, _, _, .ref qr, rfl, rfl, SqL.of (s9b _ _ hqs), at_of (by omega) (map_get hqr), lD [z], _, dp_l (l := [z]) upd_same, (hLo.mono s9b).dp, lD_shaped (fun y hy => W.ok y (hzl.subset hy)), ll_shaped (fun y hy => lD_lay fun o ho => W.ok o (((lateR.2 y).mp hy).2.1.subset ho)) lD_dep, _, rfl, ?_⟩
    rw [any_lD]
    have hin : [z] ∈ Lr ↔ KM.kp hs ms r [z] = true := by
      rw [lateR.2]
      exact ⟨fun h => h.2.2, fun h => ⟨by simp, hzl, h⟩⟩
    have e0 : V.int (0 + (r : Int)) = V.int (r : Int) := by rw [Int.zero_add]
    cases ek : KM.kp hs ms r [z] with
    | true => exact iteBF (by rw [decide_eq_true (hin.mpr ek)]; rfl) (kf (by show (!KM.kp hs ms r [z]) = false; rw [ek]; rfl) _ sb)
    | false => exact iteB (by rw [decide_eq_false (fun h => by rw [hin.mp h] at ek; cases ek)]; rfl) ⟨_, rfl, by show Kt (V.int (0 + (r : Int))) _; rw [e0]; exact kt (by show (!KM.kp hs ms r [z]) = true; rw [ek]; rfl) _ sb⟩
  intro D H9 hD9 s9 hA9
  refine ⟨_, rfl, D, _, rfl, SqL.of hA9, fun dl ndl => ?_⟩
  have ecut : cutV (((List.range (most + 1)).filter fun r => !KM.kp hs ms r [z]).map fun (r : Nat) => V.int (r : Int)) none (some 1) = ((((List.range (most + 1)).filter fun r => !KM.kp hs ms r [z]).take 1).map fun (r : Nat) => V.int (r : Int)) := by rw [List.map_take]; exact cut_take _ 1
  have sdl := same_new (o := .lst (cutV (((List.range (most + 1)).filter fun r => !KM.kp hs ms r [z]).map fun (r : Nat) => V.int (r : Int)) none (some 1))) ndl
  generalize hH10 : upd H9 dl (.lst (cutV (((List.range (most + 1)).filter fun r => !KM.kp hs ms r [z]).map fun (r : Nat) => V.int (r : Int)) none (some 1))) = H10 at sdl
  have hdl : H10 dl = some (.lst ((((List.range (most + 1)).filter fun r => !KM.kp hs ms r [z]).take 1).map fun (r : Nat) => V.int (r : Int))) := by rw [← hH10, upd_same, ecut]
  have s710 := s8.trans (s9.trans sdl)
  have s810 := s9.trans sdl
  have hdue := due_law W hz hmost2.1 (by omega)
  have hkpS : ∀ r, KM.kp hs (ms.map srtm) r [z] = KM.kp hs ms r [z] := fun r => kp_srtm ..
  have hLV : KM.LV W'.G [z] = KM.LV W.G [z] := by
    have e1 := due_law W' hz hmost2.1 (by omega)
    have e2 : (fun r => !KM.kp hs (ms.map srtm) r [z]) = fun r => !KM.kp hs ms r [z] := funext fun r => by rw [hkpS]
    rw [e2, hdue] at e1
    by_cases c1 : KM.LV W.G [z] = KM.FE
    · rw [if_pos c1] at e1
      by_cases c2 : KM.LV W'.G [z] = KM.FE
      · rw [c1, c2]
      · rw [if_neg c2] at e1; cases e1
    · rw [if_neg c1] at e1
      by_cases c2 : KM.LV W'.G [z] = KM.FE
      · rw [if_pos c2] at e1; cases e1
      · rw [if_neg c2] at e1
        have := Option.some.inj e1
        have b1 := told_le W hz c1
        have b2 := told_le W' hz c2
        omega
  -- told
  generalize hF : ((List.range (most + 1)).filter fun r => !KM.kp hs ms r [z]) = F at hdue hdl
  have hL2 := fun h => told_le W hz h
  have Wh10 := Wh7.mono s710
  have hlh10 := s710 _ _ hlh7
  have hM10 := hM7.mono s710
  have hsure10 := hsure7.mono s710
  have hLs10 : LatesAt H10 la Ls := ⟨qs, s810 _ _ hqs, L2.Paired.mapP hqL fun _ _ h => h.mono s810⟩
  have s210 : Kp p q H2' H10 := Same.trans s27 (same_hid s710)
  have st10 := st7.mono s710
  have tb10 := tabs_kp st2 s210 tb2
  have c1le : c1 ≤ c' + 1100 := hc3
  clear hqs hqL hA9 s36 Wh6 hlh6 hM6 hsure6 Wh7 hlh7 hM7 hsure7 hlh hM hsure hMs gms W4 sM sMx hH10 hH6 s9 sdl s710 s810 s8 s7 s27 hkpS
  dsimp only [gName]
  refine seq_mid (fun σ H' => σ = [some (.ref a), some (.ref p), some (.int (0 + (it : Int))), some (.ref lh), some (.ref lm), some (.ref ls), some (.int (((xs.map V.str).length : Int) - 1 + dd)), some (.ref la), v8, some (.ref dl), some (tlV (KM.LV W.G [z])), v11, some (.str z), v13, some (.ref x), none] ∧ Same H10 H') ?_ ?_
  rotate_left
  · intro N hN
    refine ⟨_, rfl, _, rfl, x, .str z, "str", hs, ms.map srtm, W', rfl, Wh10, .str z, fun y e => by cases e; exact (nms _ hz).2, fun y hb e H11 s11 => ?_, fun hb => ?_⟩
    · cases e
      rw [hLV]
      exact hN _ _ ⟨rfl, s11⟩
    · rw [handB_in nms hz] at hb
      cases hb
  rintro _ H11 ⟨rfl, s11⟩
  -- the first question
  refine seq_mid (fun σ H' => σ = [some (.ref a), some (.ref p), some (.int (0 + (it : Int))), some (.ref lh), some (.ref lm), some (.ref ls), some (.int (((xs.map V.str).length : Int) - 1 + dd)), some (.ref la), v8, some (.ref dl), some (tlV (KM.LV W.G [z])), v11, some (.str z), v13, some (.ref x), none] ∧ Same H10 H') ?_ ?_
  rotate_left
  · intro N hN
    refine ⟨_, rfl, _, rfl, Nat.zero_le _, fun e11 ne11 => ?_⟩
    have se11 := same_new (o := .lst []) ne11
    have dpI : ∀ (H : Hp) (l : List Nat), DpAll K H (l.map fun (r : Nat) => V.int (r : Int)) (l.map fun (r : Nat) => PyData.int (r : Int)) := fun H l => by
      induction l with
      | nil => exact .nil
      | cons x l ih => exact .cons (.int _) ih
    have shI : ∀ l : List Nat, SeqAt.shaped (.list (l.map fun (r : Nat) => PyData.int (r : Int))) = true := fun l => by
      have e : (l.map fun (r : Nat) => PyData.int (r : Int)) = (l.map fun (r : Nat) => (r : Int)).map .int := by rw [List.map_map]; rfl
      rw [e]
      exact shaped_ints _
    have dlist : ∀ l : List Nat, PyData.eqv (.list (l.map fun (r : Nat) => PyData.int (r : Int))) (.list []) = decide (l = []) := fun l => by
      cases l with
      | nil => simp [PyData.eqv, PyData.eqvAll]
      | cons x l => simp [PyData.eqv, PyData.eqvAll]
    refine ⟨_, _, .lst (SqL.of (se11 _ _ (s11 _ _ hdl))) (dpI _ _), .lst (SqL.of upd_same) .nil, shI _, shI [], _, rfl, ?_⟩
    rw [dlist]
    by_cases cL : KM.LV W.G [z] = KM.FE
    · rw [if_pos cL] at hdue
      have eF : F = [] := by
        cases F with
        | nil => rfl
        | cons _ _ => cases hdue
      subst eF
      refine iteBF (by rw [decide_eq_true (show ([] : List Nat).take 1 = [] from rfl)]; rfl) ?_
      refine ⟨_, .non, rfl, by rw [tlV_fe cL]; exact .non, fun H12 s12 => ⟨_, rfl, iteF ?_⟩⟩
      exact hN _ _ ⟨rfl, s11.trans (se11.trans s12)⟩
    · rw [if_neg cL] at hdue
      obtain ⟨F', rfl⟩ : ∃ F', F = (KM.LV W.G [z] + 1).toNat :: F' := by
        cases F with
        | nil => cases hdue
        | cons y F' => exact ⟨F', by rw [Option.some.inj hdue]⟩
      have b1 := hL2 cL
      refine iteB (by rw [decide_eq_false (show ¬ ((KM.LV W.G [z] + 1).toNat :: F').take 1 = [] from fun e => by cases e)]; rfl) ?_
      refine ⟨_, rfl, dl, _, 0, _, rfl, rfl, SqL.of (se11 _ _ (s11 _ _ hdl)), atI_nat (j := 0) rfl, ?_⟩
      refine ⟨_, .int (((KM.LV W.G [z] + 1).toNat : Nat) : Int), rfl, ?_, fun H12 s12 => ⟨_, rfl, iteF ?_⟩⟩
      · rw [tlV_int cL, show (((KM.LV W.G [z] + 1).toNat : Nat) : Int) = KM.LV W.G [z] + 1 from Int.toNat_of_nonneg (by omega)]
        exact .int _
      · exact hN _ _ ⟨rfl, s11.trans (se11.trans s12)⟩
  rintro _ H12 ⟨rfl, s12⟩
  -- the second question
  refine seq_mid (fun σ H' => σ = [some (.ref a), some (.ref p), some (.int (0 + (it : Int))), some (.ref lh), some (.ref lm), some (.ref ls), some (.int (((xs.map V.str).length : Int) - 1 + dd)), some (.ref la), v8, some (.ref dl), some (tlV (KM.LV W.G [z])), v11, some (.str z), v13, some (.ref x), none] ∧ Same H10 H') ?_ ?_
  rotate_left
  · intro N hN
    obtain ⟨pls, hls, hps⟩ := hsure10.mono s12
    obtain ⟨es, rfl, ees, hes⟩ := paired_es hps
    have hel : es.length = ms.length := by rw [ees, List.length_map]
    refine ⟨_, rfl, rfl, _, rfl, ls, rfl, ⟨_, SqL.of hls⟩, ?_⟩
    refine lcl es (fun e => V.ref e.1) (fun _ => true) (fun e => .bl (!decide (z ∈ srcs xs e.2))) (SqL.of (by rw [hls, List.map_map]; rfl)) (by omega) ?_ ?_
    · intro j e H13 he s13 Kt Kf kt kf
      refine ⟨rfl, tyes ?_⟩
      refine ⟨_, rfl, _, rfl, e.1, _, rfl, .inl (SqL.of (s13 _ _ (hes e (at_mem he)))), rfl, flat_strs _, ?_⟩
      show Kt (V.bl (!inV (.str z) ((srcs xs e.2).map V.str))) _
      rw [inV_str]
      exact kt rfl _ (.refl _)
    · intro D H13 hD s13 hA
      refine ⟨D, es.map fun e => !decide (z ∈ srcs xs e.2), rfl, SqL.of (by rw [hA, List.filter_eq_self.mpr (fun _ _ => rfl), List.map_map]; rfl), rfl, _, rfl, ?_⟩
      have eB : (es.map fun e => !decide (z ∈ srcs xs e.2)).any id = decide (KM.LV W.G [z] = KM.FE) := by
        rw [← sure_any hhs W hz, List.any_map, ees, List.any_map]
        rfl
      refine iteBF (by show (!decide (V.bl (decide (tlV (KM.LV W.G [z]) = V.non)) = V.bl ((es.map fun e => !decide (z ∈ srcs xs e.2)).any id))) = false; rw [tlV_non, eB, decide_eq_true rfl]; rfl) ?_
      refine ⟨_, rfl, rfl, _, rfl, ?_⟩
      by_cases cL : KM.LV W.G [z] = KM.FE
      · refine iteBF (by show (!decide (tlV (KM.LV W.G [z]) = V.non)) = false; rw [tlV_non, decide_eq_true cL]; rfl) (iteF ?_)
        exact hN _ _ ⟨rfl, s12.trans s13⟩
      · have b1 := hL2 cL
        refine iteB (by show (!decide (tlV (KM.LV W.G [z]) = V.non)) = true; rw [tlV_non, decide_eq_false cL]; rfl) ?_
        refine ⟨_, rfl, _, rfl, lh, _, rfl, .inl (SqL.of (s13 _ _ (s12 _ _ hlh10))), _, _, rfl, rfl, _, _, tlV_int cL, rfl, _, rfl, iteBF (decide_eq_false ?_) ?_⟩
        · rw [List.length_map]
          omega
        · exact hN _ _ ⟨rfl, s12.trans s13⟩
  rintro _ H13 ⟨rfl, s13⟩
  -- all rounds
  have odd1 : ∀ y, V.str z = V.str y → y.length ≤ 1000 := fun y e => by cases e; exact (nms _ hz).2
  have hbz : handB (.str z) hs = true := handB_in nms hz
  refine seq_mid (fun σ H' => ∃ v8, σ = [some (.ref a), some (.ref p), some (.int (0 + (it : Int))), some (.ref lh), some (.ref lm), some (.ref ls), some (.int (((xs.map V.str).length : Int) - 1 + dd)), some (.ref la), v8, some (.ref dl), some (tlV (KM.LV W.G [z])), v11, some (.str z), v13, some (.ref x), none] ∧ Same H10 H') ?_ ?_
  rotate_left
  · intro N hN
    refine ⟨_, rfl, _, _, rfl, rfl, ((most + 1 : Nat) : Int), (show [V.int (((xs.map V.str).length : Int) - 1 + dd + 1)] = [V.int ((most + 1 : Nat) : Int)] by rw [hmost]; rfl), by omega, by omega, ?_⟩
    rw [Int.toNat_natCast]
    refine for_it (walk_range (lo := 0) (n := most + 1)) (fun r σ H' => ∃ v8, σ = [some (.ref a), some (.ref p), some (.int (0 + (it : Int))), some (.ref lh), some (.ref lm), some (.ref ls), some (.int (((xs.map V.str).length : Int) - 1 + dd)), some (.ref la), v8, some (.ref dl), some (tlV (KM.LV W.G [z])), v11, some (.str z), v13, some (.ref x), none] ∧ Same H10 H') ⟨v8, rfl, s13⟩ (fun _ _ _ _ _ => trivial) ?_ ?_
    · rintro r y σ H14 H14' hr ⟨v8, rfl, s14⟩ ⟨rfl, rfl⟩
      refine ⟨_, rfl, _, rfl, _, rfl, x, .str z, "str", .int (0 + (r : Int)), "int", hs, ms.map srtm, W', rfl, Wh10.mono s14, .str z, odd1, .int _, fun y r' hb e1 e2 => ?_, fun hb => ?_, fun hb hn => ?_⟩
      · cases e1
        have er : r' = r := by have := V.int.inj e2; omega
        subst er
        rw [kp_srtm, gr_srtm]
        refine ⟨by omega, fun ek H15 s15 => ?_, fun ek p15 H15 s15 hp15 => ?_⟩
        · refine ⟨_, rfl, _, rfl, _, rfl, _, rfl, lm, z, r', la, hs, ms, Ls, W, (show [V.ref lm, V.str z, V.int (0 + (r' : Int)), V.ref la] = [V.ref lm, V.str z, V.int (r' : Int), V.ref la] by rw [Int.zero_add]), hM10.mono (s14.trans s15), hLs10.mono (s14.trans s15), by omega, by omega, late, hz, fun ek2 H16 s16 => ?_, fun ek2 => ?_⟩
          · exact ⟨_, _, rfl, .non, fun H17 s17 => ⟨_, rfl, iteF ⟨_, rfl, ((s14.trans s15).trans s16).trans s17⟩⟩⟩
          · rw [ek] at ek2; cases ek2
        · refine ⟨_, rfl, _, rfl, _, rfl, _, rfl, lm, z, r', la, hs, ms, Ls, W, (show [V.ref lm, V.str z, V.int (0 + (r' : Int)), V.ref la] = [V.ref lm, V.str z, V.int (r' : Int), V.ref la] by rw [Int.zero_add]), hM10.mono (s14.trans s15), hLs10.mono (s14.trans s15), by omega, by omega, late, hz, fun ek2 => ?_, fun ek2 p16 H16 np16 s16 hp16 => ?_⟩
          · rw [ek] at ek2; cases ek2
          · exact ⟨_, _, rfl, sm_row (s16 _ _ hp15) hp16 (by rw [gr_len]; omega), fun H17 s17 => ⟨_, rfl, iteF ⟨_, rfl, ((s14.trans s15).trans s16).trans s17⟩⟩⟩
      · rw [hbz] at hb; cases hb
      · have h0 : decide ((0 : Int) ≤ 0 + (r : Int)) = false := hn
        exact absurd (of_decide_eq_false h0) (fun h => h (by omega))
    · rintro σ H14 ⟨v8, rfl, s14⟩
      exact hN _ _ ⟨v8, rfl, s14⟩
  rintro _ H14 ⟨v8', rfl, s14⟩
  -- the first three rounds, all rows tried
  refine seq_mid (fun σ H' => ∃ v8, σ = [some (.ref a), some (.ref p), some (.int (0 + (it : Int))), some (.ref lh), some (.ref lm), some (.ref ls), some (.int (((xs.map V.str).length : Int) - 1 + dd)), some (.ref la), v8, some (.ref dl), some (tlV (KM.LV W.G [z])), v11, some (.str z), v13, some (.ref x), none] ∧ Same H10 H') ?_ ?_
  rotate_left
  · intro N hN
    refine ⟨3, rfl, by decide, by decide, ?_⟩
    refine for_it (walk_range (lo := 0) (n := 3)) (fun r σ H' => ∃ v8, σ = [some (.ref a), some (.ref p), some (.int (0 + (it : Int))), some (.ref lh), some (.ref lm), some (.ref ls), some (.int (((xs.map V.str).length : Int) - 1 + dd)), some (.ref la), v8, some (.ref dl), some (tlV (KM.LV W.G [z])), v11, some (.str z), v13, some (.ref x), none] ∧ Same H10 H') ⟨v8', rfl, s14⟩ (fun _ _ _ _ _ => trivial) ?_ ?_
    · rintro r y σ H15 H15' hr ⟨v8, rfl, s15⟩ ⟨rfl, rfl⟩
      refine ⟨_, rfl, _, rfl, _, rfl, x, .str z, "str", .int (0 + (r : Int)), "int", hs, ms.map srtm, W', rfl, Wh10.mono s15, .str z, odd1, .int _, fun y r' hb e1 e2 => ?_, fun hb => ?_, fun hb hn => ?_⟩
      · cases e1
        have er : r' = r := by have := V.int.inj e2; omega
        subst er
        rw [kp_srtm, gr_srtm]
        refine ⟨by omega, fun ek H16 s16 => ?_, fun ek p16 H16 s16 hp16 => ?_⟩
        · refine ⟨_, rfl, _, rfl, _, rfl, lm, z, r', hs, ms, W, (show [V.ref lm, V.str z, V.int (0 + (r' : Int))] = [V.ref lm, V.str z, V.int (r' : Int)] by rw [Int.zero_add]), hM10.mono (s15.trans s16), by omega, hz, fun ek2 H17 s17 => ?_, fun ek2 => ?_⟩
          · exact ⟨_, _, rfl, .non, fun H18 s18 => ⟨_, rfl, iteF ⟨_, rfl, ((s15.trans s16).trans s17).trans s18⟩⟩⟩
          · rw [ek] at ek2; cases ek2
        · refine ⟨_, rfl, _, rfl, _, rfl, lm, z, r', hs, ms, W, (show [V.ref lm, V.str z, V.int (0 + (r' : Int))] = [V.ref lm, V.str z, V.int (r' : Int)] by rw [Int.zero_add]), hM10.mono (s15.trans s16), by omega, hz, fun ek2 => ?_, fun ek2 p17 H17 np17 s17 hp17 => ?_⟩
          · rw [ek] at ek2; cases ek2
          · exact ⟨_, _, rfl, sm_row (s17 _ _ hp16) hp17 (by rw [gr_len]; omega), fun H18 s18 => ⟨_, rfl, iteF ⟨_, rfl, ((s15.trans s16).trans s17).trans s18⟩⟩⟩
      · rw [hbz] at hb; cases hb
      · have h0 : decide ((0 : Int) ≤ 0 + (r : Int)) = false := hn
        exact absurd (of_decide_eq_false h0) (fun h => h (by omega))
    · rintro σ H15 ⟨v8, rfl, s15⟩
      exact hN _ _ ⟨v8, rfl, s15⟩
  rintro _ H15 ⟨v8'', rfl, s15⟩
  -- the odd thing
  refine seq_mid (fun σ H' => ∃ v8 odd, σ = [some (.ref a), some (.ref p), some (.int (0 + (it : Int))), some (.ref lh), some (.ref lm), some (.ref ls), some (.int (((xs.map V.str).length : Int) - 1 + dd)), some (.ref la), v8, some (.ref dl), some (tlV (KM.LV W.G [z])), v11, some (.str z), some odd, some (.ref x), none] ∧ OddV H' hs odd ∧ WorldAt (He.ga K "Maps") H' x hs (ms.map srtm) ∧ Stm H' p q (c1 + 1 + 1 + 1) ∧ LamX.Tabs [(Pt, lamQ)] H') ?_ ?_
  rotate_left
  · intro N hN
    refine ⟨_, rfl, 1, rfl, Nat.zero_le _, fun e ne => ⟨_, _, rfl, rfl, ⟨by decide, by decide, by decide⟩, _, _, rfl, rfl, (by show 6 ≤ sizeLine; decide), fun bl nbl => ?_⟩⟩
    have st15 := st10.mono s15
    have tb15 := LamX.Tabs.ext tb10 s15
    have Wh15 := Wh10.mono s15
    have se := same_new (o := .lst []) ne
    have sb := same_new (o := .lst [V.non, V.int (-1), V.bl true, V.str "2", V.ref e, V.int (0 - 10 ^ Int.toNat 8)]) nbl
    have s16 := se.trans sb
    obtain ⟨nep, neq⟩ := st15.pn ne
    obtain ⟨nbp, nbq⟩ := (st15.mono se).pn nbl
    have he : upd (upd H15 e (.lst [])) bl (.lst [V.non, V.int (-1), V.bl true, V.str "2", V.ref e, V.int (0 - 10 ^ Int.toNat 8)]) e = some (.lst []) := sb _ _ upd_same
    refine ⟨p, q, c1 + 1 + 1, bl, [V.non, V.int (-1), V.bl true, V.str "2", V.ref e, V.int (0 - 10 ^ Int.toNat 8)], rfl, st15.mono s16, by omega, hid_of (by simp [nbp, nbq]) upd_same, by simp, by simp, fun i2 odd H17 hv st17 s17 => ?_⟩
    have he17 : H17 e = some (.lst []) := kp_at s17 (by simp [nep, neq]) he
    have two : nameS "2" = false := by decide +kernel
    have ho : OddV H17 hs odd := by
      match i2, hv with
      | 0, hv => cases hv; exact ⟨⟨_, .non⟩, rfl, rfl, fun y e => (by cases e), .non⟩
      | 1, hv => cases hv; exact ⟨⟨_, .int _⟩, rfl, by decide, fun y e => (by cases e), .int _⟩
      | 2, hv => cases hv; exact ⟨⟨_, .bl _⟩, rfl, rfl, fun y e => (by cases e), .bl _⟩
      | 3, hv =>
        cases hv
        exact ⟨⟨_, .str _⟩, (show (nameS "2" && decide (("2" : Str) ∈ hs)) = false by rw [two]; rfl), rfl, fun y e => (by cases e; decide), .str _⟩
      | 4, hv => cases hv; exact ⟨⟨_, .lst he17⟩, rfl, rfl, fun y e => (by cases e), .lst he17 he17 rfl (by decide) fun i x y h1 h2 => (by cases h1)⟩
      | 5, hv => cases hv; exact ⟨⟨_, .int _⟩, rfl, by decide, fun y e => (by cases e), .int _⟩
    exact hN _ _ ⟨_, odd, rfl, ho, (((Wh15.mono s16).hidq (st15.mono s16) hs0 (by simpa using ne3) nonempty).mono s17).mono hid_le, st17, tabs_kp (st15.mono s16) s17 (LamX.Tabs.ext tb15 s16)⟩
  rintro _ H17 ⟨v8, odd, rfl, ho17, Wh17, st17, tb17⟩
  clear Wh10 hlh10 hM10 hsure10 hLs10 s210 st10 tb10 hdl s15 s14 s13 s12 s11
  have hzz : handB (.str "zz") hs = false := by
    show (nameS "zz" && decide (("zz" : Str) ∈ hs)) = false
    rw [decide_eq_false (fun h => (sixn _ (hx6 _ (mem_hs.mp h))).2.2.1 rfl), Bool.and_false]
  -- the first
  refine seq_mid (fun σ H' => ∃ l t1, σ = [some (.ref a), some (.ref p), some (.int (0 + (it : Int))), some (.ref lh), some (.ref lm), some (.ref ls), some (.int (((xs.map V.str).length : Int) - 1 + dd)), some (.ref la), v8, some (.ref dl), some (tlV (KM.LV W.G [z])), some (.ref l), some (.str z), some odd, some (.ref x), none] ∧ H' l = some (.lst [.ref t1]) ∧ H' t1 = some (.tup [.str "hand", .str "zz"]) ∧ OddV (hid [l] H') hs odd ∧ WorldAt (He.ga K "Maps") (hid [l] H') x hs (ms.map srtm) ∧ Stm H' p q (c1 + 1 + 1 + 1) ∧ LamX.Tabs [(Pt, lamQ)] H' ∧ l ≠ p ∧ l ≠ q) ?_ ?_
  rotate_left
  · intro N hN
    refine ⟨tb17, fun H18 eN tb18 => ?_⟩
    have ho18 := ho17.ext eN
    obtain ⟨no, oo⟩ := ho18.o
    refine ⟨_, rfl, _, rfl, x, .str "zz", "str", odd, no, hs, ms.map srtm, W', rfl, Wh17.ext eN, .str _, fun y e => (by cases e; decide), oo, fun y r hb => ?_, fun hb d H19 s19 nd hx => ?_, fun hb => ?_⟩
    · rw [hzz] at hb; cases hb
    · refine ⟨d, _, rfl, hx, .inl ⟨rfl, fun t1 H20 nt1 s20 ht1 => ⟨sz1, fun l nl => ?_⟩⟩⟩
      have sl := same_new (o := .lst [V.ref t1]) nl
      have s1920 := s19.trans s20
      have s := s1920.trans sl
      have sh : Same H18 (hid [l] (upd H20 l (.lst [V.ref t1]))) := fun b o e => hid_of (by simpa using ne_of_none (s1920 _ _ e) nl) (s _ _ e)
      have st20 := (st17.ext eN).mono s1920
      exact hN _ _ ⟨l, t1, rfl, upd_same, sl _ _ ht1, ho18.mono sh, (Wh17.ext eN).mono sh, st20.mono sl, LamX.Tabs.ext tb18 s, (st20.pn nl).1, (st20.pn nl).2⟩
    · rw [hzz] at hb; cases hb
  rintro _ H18 ⟨l, t1, rfl, hl18, ht18, ho18, Wh18, st18, tb18, nlp, nlq⟩
  -- the second
  refine seq_mid (fun σ H' => ∃ t2, σ = [some (.ref a), some (.ref p), some (.int (0 + (it : Int))), some (.ref lh), some (.ref lm), some (.ref ls), some (.int (((xs.map V.str).length : Int) - 1 + dd)), some (.ref la), v8, some (.ref dl), some (tlV (KM.LV W.G [z])), some (.ref l), some (.str z), some odd, some (.ref x), none] ∧ H' l = some (.lst [.ref t1, .ref t2]) ∧ H' t1 = some (.tup [.str "hand", .str "zz"]) ∧ H' t2 = some (.tup [.str "hand", odd]) ∧ OddV (hid [l] H') hs odd ∧ WorldAt (He.ga K "Maps") (hid [l] H') x hs (ms.map srtm) ∧ Stm H' p q (c1 + 1 + 1 + 1) ∧ LamX.Tabs [(Pt, lamQ)] H' ∧ l ≠ p ∧ l ≠ q) ?_ ?_
  rotate_left
  · intro N hN
    refine ⟨_, rfl, .inl ⟨rfl, _, SqL.of hl18⟩, tb18, fun H19 eN tb19 => ?_⟩
    have ho19 := ho18.ext (extN_hid eN)
    have Wh19 := Wh18.ext (extN_hid eN)
    have hoH := ho19.mono hid_le
    obtain ⟨no, oo⟩ := hoH.o
    refine ⟨_, rfl, _, rfl, x, odd, no, hs, ms.map srtm, W', rfl, Wh19.mono hid_le, oo, ho19.z, fun y hb => ?_, fun hb d H20 s20 nd hx => ?_⟩
    · rw [ho19.hb] at hb; cases hb
    · refine ⟨d, _, rfl, hx, .inl ⟨rfl, fun t2 H21 nt2 s21 ht2 => ?_⟩⟩
      have s := s20.trans s21
      have hl21 := s _ _ (eN _ _ hl18 (fun _ z => by cases z))
      have ht21 := s _ _ (eN _ _ ht18 (fun _ z => by cases z))
      have up : ∀ {b : Addr} {xs : List V} {u : HO}, H21 b = some (.tup xs) → upd H21 l u b = some (.tup xs) := fun hb => by rw [upd_ne (ne_of hb hl21 (fun z => by cases z))]; exact hb
      refine ⟨l, _, _, rfl, rfl, hl21, (by show 1 < sizeLine; decide), ?_⟩
      exact hN _ _ ⟨t2, rfl, upd_same, up ht21, up ht2, by rw [hid_in (by simp)]; exact ho19.mono (same_hid s), by rw [hid_in (by simp)]; exact Wh19.mono (same_hid s), ((st18.ext eN).mono s).upd nlp nlq, tabs_upd (LamX.Tabs.ext tb19 s) hl21, nlp, nlq⟩
  rintro _ H19 ⟨t2, rfl, hl19, ht19, hu19, ho19, Wh19, st19, tb19, _, _⟩
  -- the third
  refine seq_mid (fun σ H' => ∃ t3, σ = [some (.ref a), some (.ref p), some (.int (0 + (it : Int))), some (.ref lh), some (.ref lm), some (.ref ls), some (.int (((xs.map V.str).length : Int) - 1 + dd)), some (.ref la), v8, some (.ref dl), some (tlV (KM.LV W.G [z])), some (.ref l), some (.str z), some odd, some (.ref x), none] ∧ H' l = some (.lst [.ref t1, .ref t2, .ref t3]) ∧ H' t1 = some (.tup [.str "hand", .str "zz"]) ∧ H' t2 = some (.tup [.str "hand", odd]) ∧ H' t3 = some (.tup [.str "number", odd]) ∧ OddV (hid [l] H') hs odd ∧ WorldAt (He.ga K "Maps") (hid [l] H') x hs (ms.map srtm) ∧ Stm H' p q (c1 + 1 + 1 + 1) ∧ LamX.Tabs [(Pt, lamQ)] H' ∧ l ≠ p ∧ l ≠ q) ?_ ?_
  rotate_left
  · intro N hN
    refine ⟨_, rfl, .inl ⟨rfl, _, SqL.of hl19⟩, tb19, fun H20 eN tb20 => ?_⟩
    have ho20 := ho19.ext (extN_hid eN)
    have Wh20 := Wh19.ext (extN_hid eN)
    have hoH := ho20.mono hid_le
    obtain ⟨no, oo⟩ := hoH.o
    refine ⟨_, rfl, _, rfl, _, rfl, x, .str z, "str", odd, no, hs, ms.map srtm, W', rfl, Wh20.mono hid_le, .str _, odd1, oo, fun y r hb e1 e2 => ?_, fun hb => ?_, fun hb hn d H21 s21 nd hx => ?_⟩
    · have h0 := ho20.nb
      rw [e2] at h0
      have h1 : decide ((0 : Int) ≤ (r : Int)) = false := h0
      exact absurd (of_decide_eq_false h1) (fun h => h (by omega))
    · rw [hbz] at hb; cases hb
    · refine ⟨d, _, rfl, hx, .inr ⟨rfl, fun t3 H22 nt3 s22 ht3 => ?_⟩⟩
      have s := s21.trans s22
      have hl22 := s _ _ (eN _ _ hl19 (fun _ z => by cases z))
      have ht22 := s _ _ (eN _ _ ht19 (fun _ z => by cases z))
      have hu22 := s _ _ (eN _ _ hu19 (fun _ z => by cases z))
      have up : ∀ {b : Addr} {xs : List V} {u : HO}, H22 b = some (.tup xs) → upd H22 l u b = some (.tup xs) := fun hb => by rw [upd_ne (ne_of hb hl22 (fun z => by cases z))]; exact hb
      refine ⟨l, _, _, rfl, rfl, hl22, (by show 2 < sizeLine; decide), ?_⟩
      exact hN _ _ ⟨t3, rfl, upd_same, up ht22, up hu22, up ht3, by rw [hid_in (by simp)]; exact ho20.mono (same_hid s), by rw [hid_in (by simp)]; exact Wh20.mono (same_hid s), ((st19.ext eN).mono s).upd nlp nlq, tabs_upd (LamX.Tabs.ext tb20 s) hl22, nlp, nlq⟩
  rintro _ H20 ⟨t3, rfl, hl20, ht20, hu20, hw20, ho20, Wh20, st20, tb20, _, _⟩
  -- all three are so
  refine ⟨_, rfl, sz2, fun u1 n1 => ⟨_, rfl, sz2, fun u2 n2 => ⟨_, rfl, sz2, fun u3 n3 => ⟨sz3, fun ul nul => ?_⟩⟩⟩⟩
  have r1 := same_new (o := .tup [V.str "hand", V.str "zz"]) n1
  have r2 := same_new (o := .tup [V.str "hand", odd]) n2
  have r3 := same_new (o := .tup [V.str "number", odd]) n3
  have r4 := same_new (o := .lst [V.ref u1, V.ref u2, V.ref u3]) nul
  have rA := ((r1.trans r2).trans r3).trans r4
  have hoE := (ho20.mono hid_le).mono rA
  have tup2 : ∀ {H : Hp} {a b : Addr} {y1 y2 : V}, H a = some (.tup [y1, y2]) → H b = some (.tup [y1, y2]) → Sm H 1 y1 y1 → Sm H 1 y2 y2 → Sm H 2 (.ref a) (.ref b) := fun ha hb h1 h2 => .tup ha hb rfl (by simp) fun i x y e1 e2 => by
    rw [e1] at e2
    cases e2
    match i, e1 with
    | 0, e1 => cases e1; exact h1
    | 1, e1 => cases e1; exact h2
  refine ⟨_, _, rfl, .lst (rA _ _ hl20) upd_same rfl (by simp) fun i y1 y2 e1 e2 => ?_, fun H21 s21 => ⟨_, rfl, iteF ?_⟩⟩
  · match i, e1, e2 with
    | 0, e1, e2 =>
      cases e1
      cases e2
      exact tup2 (rA _ _ ht20) (((r2.trans r3).trans r4) _ _ upd_same) (.str _) (.str _)
    | 1, e1, e2 =>
      cases e1
      cases e2
      exact tup2 (rA _ _ hu20) ((r3.trans r4) _ _ upd_same) (.str _) hoE.s
    | 2, e1, e2 =>
      cases e1
      cases e2
      exact tup2 (rA _ _ hw20) (r4 _ _ upd_same) (.str _) hoE.s
  · exact ⟨_, _, _, _, _, _, _, _, _, _, _, _, _, _, rfl, (st20.mono rA).mono s21, by omega, LamX.Tabs.ext tb20 (rA.trans s21)⟩
end
end K9

/-! ## L27 -/
set_option maxHeartbeats 2000000
namespace K9
open PySem PySem.Spec PyProof.Rows L2
section
variable {K : PySem.W.Frag} {h : Heap} {mg : Str → Option Value}
theorem glos_in {x : Str} (hx : x ∈ glos) : He.Fa.glo x ∈ fa := by
  obtain ⟨f, h1, h2⟩ := List.mem_filterMap.mp hx
  cases f <;> cases h2
  exact h1
theorem frees_in {x : Str} (hx : x ∈ frees) : He.Fa.free x ∈ fa := by
  obtain ⟨f, h1, h2⟩ := List.mem_filterMap.mp hx
  cases f <;> cases h2
  exact h1
theorem plain_defs (d : He.DefD) (hd : d ∈ fn) : d.dfl = [] ∧ d.kwd = [] := by
  have h : fn.all (fun d => d.dfl.isEmpty && d.kwd.isEmpty) = true := by decide +kernel
  have h2 := List.all_eq_true.mp h d hd
  rw [Bool.and_eq_true, List.isEmpty_iff, List.isEmpty_iff] at h2
  exact h2
theorem tx_of (X : K.In h) (G : h.Ns mainGlobals mg) (c : He.SaysD fa fn K) (hx : ex K = true) : Tx K mg where
  g := fun x hx => He.glo_ok X G (c.facts (glos_in hx))
  z := fun x hx => He.free_ok X G (c.facts (frees_in hx))
  f := fun d hd => by
    obtain ⟨fd, F⟩ := c.defs hd
    obtain ⟨h1, h2⟩ := plain_defs d hd
    have e1 : d.dvs K = [] := by unfold He.DefD.dvs; rw [h1]; rfl
    have e2 : d.kws K = [] := by unfold He.DefD.kws; rw [h2]; rfl
    rw [e1, e2] at F
    exact ⟨fd, F⟩
  fe := He.int_ok X G (c.facts (by unfold fa fa1 fa2 fa3; simp))
  sm := He.str_ok X G (c.facts (by unfold fa fa1 fa2 fa3; simp))
  fi := He.str_ok X G (c.facts (by unfold fa fa1 fa2 fa3; simp))
  cM := He.cls_ok (c.facts (by unfold fa fa1 fa2 fa3; simp))
  nH := He.noat_ok (c.facts (by unfold fa fa1 fa2 fa3; simp))
  nM := He.noat_ok (c.facts (by unfold fa fa1 fa2 fa3; simp))
  mH := He.meth_ok (c.facts (by unfold fa fa1 fa2 fa3; simp))
  mM := He.meth_ok (c.facts (by unfold fa fa1 fa2 fa3; simp))
  mkM := He.mkr_ok (c.facts (by unfold fa fa1 fa2 fa3; simp))
  eH := excB_ok (Bool.and_eq_true_iff.mp hx).1
  eN := excB_ok (Bool.and_eq_true_iff.mp hx).2
  x1 := He.exm_ok (c.facts (by unfold fa fa1 fa2 fa3; simp))
  x2 := He.exm_ok (c.facts (by unfold fa fa1 fa2 fa3; simp))
  y1 := He.exm_ok (c.facts (by unfold fa fa1 fa2 fa3; simp))
  y2 := He.exm_ok (c.facts (by unfold fa fa1 fa2 fa3; simp))
  y3 := He.exm_ok (c.facts (by unfold fa fa1 fa2 fa3; simp))
  y4 := He.exm_ok (c.facts (by unfold fa fa1 fa2 fa3; simp))
  y5 := He.exm_ok (c.facts (by unfold fa fa1 fa2 fa3; simp))
/-- what the law's promise needs, at the head's heap -/
theorem law_at {w : World} {f : Addr} (X : K.In h) (G : h.Ns mainGlobals mg) (hfa : mg ("law" : Str) = some (.ref f)) (c : He.SaysX fa fn [] tf ex w h K) :
    LamX.LawAtS PySem.Challenge.rw_breakplans_k09_whole_told_to_all w K CX0 12 63 "_law_script" mg f h := by
  have T := tx_of X G c.t.d c.more
  obtain ⟨fd, F0⟩ := T.f d_law (by unfold fn; simp)
  have F : FunD K "law" "law" (defArgs s_law) (defBody s_law) (defScope s_law) [] [] (He.ga K "law") fd := F0
  have ht : (("law", none) : He.Defn) ∈ tf := .head _
  cases hfa.symm.trans (T.G "law")
  have one : ∀ p ∈ [He.cT K ("law", none)], p = He.cT K ("law", none) := fun p hp => List.mem_singleton.mp hp
  refine ⟨fd, [He.cT K ("law", none)], spLaw K (He.cT K ("law", none)).2, fun p hp => ?_, fun p hp => ?_, fun p hp => ?_, law_binds F, fun H a ns _ _ hT hS => ⟨a, ns, rfl, hS, hT _ (.head _), fun _ => rfl⟩, fun base _ _ hB => ok_law T F rfl (hB _ (.head _))⟩
  · rw [one p hp]
    exact c.empty _ ht
  · rw [one p hp]
    exact c.out _ ht
  · rw [one p hp]
    exact PySem.W.codeHd_of_K X (c.hd _ ht)
end
end K9
open PySem PySem.W PySem.Calls PyProof.Rows
theorem PySem.Challenge.cw_breakplans_k09_whole_told_to_all_holds : PySem.Challenge.rw_breakplans_k09_whole_told_to_all.Holds := by
  w_on; o_law
  refine HandSHeadRun.head_any (r := OpenLaw.row PySem.Challenge.rw_breakplans_k09_whole_told_to_all) (q := view (OpenLaw.row PySem.Challenge.rw_breakplans_k09_whole_told_to_all).prog [63]) (H := K9.hk) (ob := K9.ob) (M := 6000) (loose := K9.loose) (d := HandSHeadRun.topDef (OpenLaw.row PySem.Challenge.rw_breakplans_k09_whole_told_to_all).prog 63) (kwd := []) K9.ob_eq
    (by kernel_rfl) (fun s => by kernel_rfl) K9.run (by kernel_rfl) (by kernel_rfl) (by kernel_rfl) (by rfl) (by first | assumption | decide +kernel) (by decide +kernel) ⟨rfl, rfl, rfl, rfl, rfl, by decide +kernel⟩ ?hw ?hc
  case hw => w_witness2
  case hc =>
    refine LamX.walk_ofTsE (l := PySem.Challenge.rw_breakplans_k09_whole_told_to_all) (n := 63) (k := 12) (x := "_law_script") (CX := fun _ => L2.CX0) rfl (by decide) (by kernel_rfl) ⟨rfl, by decide, by decide⟩ ?F (fun _ _ _ _ _ z => z)
    intro w mg fa h Y G hmg0
    obtain ⟨K, KX, c⟩ := Y
    have hmg : mg ("law" : PySem.Str) = some (.ref fa) := by
      have e : (HandSHeadRun.topDef (OpenLaw.row PySem.Challenge.rw_breakplans_k09_whole_told_to_all).prog 63).name = ("law" : PySem.Str) := by kernel_rfl
      rw [← e]
      exact hmg0
    exact ⟨K, KX, K9.law_at KX G hmg c⟩
