import PyProof.Rows.All
import Wide.All
import OpenK.AllK
import Wide.FinOn
import HandS.ForMost
import HandS.Wide
import HandS.SetFor
import HandS.DictComp
import KE.GoesEnum
import HandS.GenList
import KE.KStateDown
import HandS.Base
import HandS.Call
import HandS.Ends
import HandS.More
import HandS.Words
import HandS.WordsExc
import HandS.Defaults
import HandS.Head0
import HandS.Head1
import HandS.Head2
import HandS.HeadEnd
import HandS.HeadHook1
import HandS.HeadHook2
import HandS.Evl
import HandS.IsInst
import HandS.SortInts
import HandS.Zip
import HandS.Flow
import HandS.Style
import HandS.Conv
import HandS.Walk
import PySem.Challenge.RW_lateids_k67_whole_losses_of_plain_reader
/-! ## LmMath -/
/-! The plain law: orders, moments, polls, what is lost. Core Lean alone. -/
namespace Lm
/-! ### sorting -/
def srt (ns : List Int) : List Int := ns.mergeSort fun a b => decide (a ≤ b)
theorem srt_perm (ns : List Int) : (srt ns).Perm ns := List.mergeSort_perm _ _
theorem srt_pw (ns : List Int) : (srt ns).Pairwise (· ≤ ·) := by
  have h := List.pairwise_mergeSort (le := fun a b : Int => decide (a ≤ b)) (fun a b c h1 h2 => by simp at *; omega) (fun a b => by simp; omega) ns
  exact h.imp (fun h => by simpa using h)
theorem mem_srt {ns : List Int} {x : Int} : x ∈ srt ns ↔ x ∈ ns := (srt_perm ns).mem_iff
theorem srt_len (ns : List Int) : (srt ns).length = ns.length := (srt_perm ns).length_eq
theorem pw_unique {xs ys : List Int} (hp : xs.Perm ys) (h1 : xs.Pairwise (· ≤ ·)) (h2 : ys.Pairwise (· ≤ ·)) : xs = ys :=
  List.Perm.eq_of_pairwise (le := fun a b : Int => a ≤ b) (fun a b _ _ h1 h2 => by omega) h1 h2 hp
theorem srt_eq {ns ys : List Int} (hp : ys.Perm ns) (h : ys.Pairwise (· ≤ ·)) : ys = srt ns := pw_unique (hp.trans (srt_perm ns).symm) h (srt_pw ns)
theorem srt_congr {a b : List Int} (h : a.Perm b) : srt a = srt b := pw_unique ((srt_perm a).trans (h.trans (srt_perm b).symm)) (srt_pw a) (srt_pw b)
theorem srt_filter (p : Int → Bool) (ns : List Int) : srt (ns.filter p) = (srt ns).filter p :=
  (srt_eq ((srt_perm ns).filter p) ((srt_pw ns).filter p)).symm
theorem srt_nodup {ns : List Int} (h : ns.Nodup) : (srt ns).Nodup := ((srt_perm ns).nodup_iff).mpr h
theorem srt_id {ns : List Int} (h : ns.Pairwise (· ≤ ·)) : srt ns = ns := (srt_eq (List.Perm.refl _) h).symm
/-- two rising lists with the same members -/
theorem srt_ext {a b : List Int} (ha : a.Nodup) (hb : b.Nodup) (h : ∀ x, x ∈ a ↔ x ∈ b) : srt a = srt b := srt_congr ((List.perm_ext_iff_of_nodup ha hb).mpr h)
theorem filter_is_srt {o : List Int} {p : Int → Bool} {a : List Int} (ho : o.Nodup) (ha : a.Nodup) (h : ∀ x, x ∈ a ↔ x ∈ o ∧ p x = true) : srt a = (srt o).filter p := by
  rw [← srt_filter]
  exact srt_ext ha (ho.filter p) fun x => by rw [h, List.mem_filter]

/-! ### the greatest -/
def mxl (c : Int) (xs : List Int) : Int := xs.foldl max c
theorem mxl_mem : ∀ (xs : List Int) (c : Int), mxl c xs = c ∨ mxl c xs ∈ xs
  | [], _ => .inl rfl
  | x :: r, c => by
    rcases mxl_mem r (max c x) with h | h
    · show mxl (max c x) r = c ∨ mxl (max c x) r ∈ x :: r
      rw [h]
      rcases Int.le_total c x with q | q
      · rw [Int.max_eq_right q]
        exact .inr (.head _)
      · rw [Int.max_eq_left q]
        exact .inl rfl
    · exact .inr (.tail _ h)
theorem mxl_ge : ∀ (xs : List Int) (c : Int), c ≤ mxl c xs
  | [], _ => Int.le_refl _
  | x :: r, c => Int.le_trans (Int.le_max_left c x) (mxl_ge r (max c x))
theorem mxl_all : ∀ (xs : List Int) (c : Int), ∀ x ∈ xs, x ≤ mxl c xs
  | x :: r, c, y, h => by
    cases h with
    | head => exact Int.le_trans (Int.le_max_right c x) (mxl_ge r (max c x))
    | tail _ h => exact mxl_all r (max c x) y h
theorem mxl_is {c m : Int} {xs : List Int} (h : m = c ∨ m ∈ xs) (hc : c ≤ m) (ha : ∀ x ∈ xs, x ≤ m) : m = mxl c xs := by
  have h1 : mxl c xs ≤ m := by
    rcases mxl_mem xs c with q | q
    · rw [q]
      exact hc
    · exact ha _ q
  have h2 : m ≤ mxl c xs := by
    rcases h with q | q
    · rw [q]
      exact mxl_ge xs c
    · exact mxl_all xs c m q
  omega
/-- what max([c] + xs) says -/
theorem mxl_of {c m : Int} {xs : List Int} (h : m ∈ c :: xs) (ha : ∀ x ∈ c :: xs, x ≤ m) : m = mxl c xs := by
  refine mxl_is ?_ (ha c (.head _)) (fun x hx => ha x (.tail _ hx))
  cases h with
  | head => exact .inl rfl
  | tail _ h => exact .inr h
theorem mxl_append (c : Int) (xs ys : List Int) : mxl c (xs ++ ys) = mxl (mxl c xs) ys := List.foldl_append

/-! ### orders, tops -/
structure IsOrd (o : List Int) : Prop where
  len : o.length ≤ 30
  nd : o.Nodup
  pos : ∀ x ∈ o, 1 ≤ x
  big : ∀ x ∈ o, x ≤ 10 ^ 30
structure IsPolls (o : List Int) (ps : List Nat) : Prop where
  len : ps.length ≤ 30
  up : ps.Pairwise (· ≤ ·)
  le : ∀ p ∈ ps, p ≤ o.length
def topN (o : List Int) (p : Nat) : Int := mxl 0 (o.take p)
theorem topN_zero (o : List Int) : topN o 0 = 0 := rfl
theorem topN_nonneg (o : List Int) (p : Nat) : 0 ≤ topN o p := mxl_ge _ _
theorem topN_ge {o : List Int} {p : Nat} {x : Int} (h : x ∈ o.take p) : x ≤ topN o p := mxl_all _ _ x h
theorem topN_mem (o : List Int) (p : Nat) : topN o p = 0 ∨ topN o p ∈ o.take p := mxl_mem _ _
theorem take_mono {o : List Int} {p q : Nat} (h : p ≤ q) {x : Int} (hx : x ∈ o.take p) : x ∈ o.take q := by
  have e : o.take p = (o.take q).take p := by rw [List.take_take, Nat.min_eq_left h]
  rw [e] at hx
  exact List.mem_of_mem_take hx
theorem topN_mono {o : List Int} {p q : Nat} (h : p ≤ q) : topN o p ≤ topN o q := by
  rcases topN_mem o p with e | e
  · rw [e]
    exact topN_nonneg o q
  · exact topN_ge (take_mono h e)
theorem topN_succ {o : List Int} {p : Nat} {x : Int} (h : o[p]? = some x) : topN o (p + 1) = max (topN o p) x := by
  unfold topN
  rw [List.take_add_one, h, mxl_append]
  rfl
def tops (o : List Int) : List Int := (List.range (o.length + 1)).map (topN o)
theorem tops_len (o : List Int) : (tops o).length = o.length + 1 := by simp [tops]
theorem tops_get {o : List Int} {p : Nat} (h : p ≤ o.length) : (tops o)[p]? = some (topN o p) := by
  unfold tops
  rw [List.getElem?_map, List.getElem?_range (by omega)]
  rfl

/-! ### what a plain reader gets -/
def rows (o : List Int) (c : Int) (p : Nat) : List Int := srt ((o.take p).filter fun x => decide (c < x))
theorem mem_rows {o : List Int} {c : Int} {p : Nat} {x : Int} : x ∈ rows o c p ↔ x ∈ o.take p ∧ c < x := by
  unfold rows
  rw [mem_srt, List.mem_filter]
  simp
theorem rows_len (o : List Int) (c : Int) (p : Nat) : (rows o c p).length ≤ o.length := by
  unfold rows
  rw [srt_len]
  exact Nat.le_trans (List.length_filter_le _ _) (by rw [List.length_take]; omega)
def rd (o : List Int) : Int → List Nat → List (List Int)
  | _, [] => []
  | c, p :: ps => rows o c p :: rd o (mxl c (rows o c p)) ps
def cur (o : List Int) : Int → List Nat → Int
  | c, [] => c
  | c, p :: ps => cur o (mxl c (rows o c p)) ps
theorem rd_len (o : List Int) : ∀ (ps : List Nat) (c : Int), (rd o c ps).length = ps.length
  | [], _ => rfl
  | p :: ps, c => by simp [rd, rd_len o ps]
theorem rd_append (o : List Int) : ∀ (ps qs : List Nat) (c : Int), rd o c (ps ++ qs) = rd o c ps ++ rd o (cur o c ps) qs
  | [], _, _ => rfl
  | p :: ps, qs, c => by simp [rd, cur, rd_append o ps qs]
theorem cur_append (o : List Int) : ∀ (ps qs : List Nat) (c : Int), cur o c (ps ++ qs) = cur o (cur o c ps) qs
  | [], _, _ => rfl
  | p :: ps, qs, c => by simp [cur, cur_append o ps qs]
/-- behind a poll the cursor is the greater one of it and the top -/
theorem cur_step {o : List Int} {c : Int} {p : Nat} (hc : 0 ≤ c) : mxl c (rows o c p) = max c (topN o p) := by
  refine (mxl_is ?_ (Int.le_max_left _ _) ?_).symm
  · rcases Int.le_total (topN o p) c with q | q
    · exact .inl (Int.max_eq_left q)
    · rw [Int.max_eq_right q]
      rcases topN_mem o p with e | e
      · left
        omega
      · by_cases h : c < topN o p
        · exact .inr (mem_rows.mpr ⟨e, h⟩)
        · left
          omega
  · intro x hx
    exact Int.le_trans (topN_ge (mem_rows.mp hx).1) (Int.le_max_right _ _)
theorem cur_ge (o : List Int) : ∀ (ps : List Nat) (c : Int), c ≤ cur o c ps
  | [], _ => Int.le_refl _
  | p :: ps, c => Int.le_trans (mxl_ge _ c) (cur_ge o ps _)
theorem rd_low {o : List Int} {x : Int} : ∀ (ps : List Nat) (c : Int), x ≤ c → x ∉ (rd o c ps).flatten
  | [], _, _ => by simp [rd]
  | p :: ps, c, h => by
    rw [rd, List.flatten_cons, List.mem_append]
    rintro (q | q)
    · have := (mem_rows.mp q).2
      omega
    · exact rd_low ps _ (Int.le_trans h (mxl_ge _ c)) q
theorem rd_sub {o : List Int} {x : Int} : ∀ (ps : List Nat) (c : Int), x ∈ (rd o c ps).flatten → x ∈ o
  | p :: ps, c, h => by
    rw [rd, List.flatten_cons, List.mem_append] at h
    rcases h with h | h
    · exact List.mem_of_mem_take (mem_rows.mp h).1
    · exact rd_sub ps _ h
/-- all that is returned lies up to the cursor; the cursor is returned -/
theorem rd_le {o : List Int} {x : Int} : ∀ (ps : List Nat) (c : Int), x ∈ (rd o c ps).flatten → x ≤ cur o c ps
  | p :: ps, c, h => by
    rw [rd, List.flatten_cons, List.mem_append] at h
    rcases h with h | h
    · exact Int.le_trans (mxl_all _ _ x h) (cur_ge o ps _)
    · exact rd_le ps _ h
theorem cur_mem {o : List Int} : ∀ (ps : List Nat) (c : Int), cur o c ps = c ∨ cur o c ps ∈ (rd o c ps).flatten
  | [], _ => .inl rfl
  | p :: ps, c => by
    rw [rd, List.flatten_cons, List.mem_append]
    rcases cur_mem ps (mxl c (rows o c p)) with h | h
    · rcases mxl_mem (rows o c p) c with q | q
      · left
        show cur o (mxl c (rows o c p)) ps = c
        rw [h, q]
      · right
        left
        show cur o (mxl c (rows o c p)) ps ∈ _
        rw [h]
        exact q
    · exact .inr (.inr h)
theorem rd_nodup {o : List Int} (ho : o.Nodup) : ∀ (ps : List Nat) (c : Int), (rd o c ps).flatten.Nodup
  | [], _ => by simp [rd]
  | p :: ps, c => by
    rw [rd, List.flatten_cons, List.nodup_append]
    refine ⟨?_, rd_nodup ho ps _, ?_⟩
    · unfold rows
      exact srt_nodup (List.Pairwise.filter _ ((List.take_sublist p o).nodup ho))
    · rintro a ha b hb rfl
      exact rd_low ps _ (mxl_all _ c a ha) hb
/-- x is in danger at p -/
def dng (o : List Int) (x : Int) (p : Nat) : Prop := x ∉ o.take p ∧ x < topN o p
instance (o : List Int) (x : Int) (p : Nat) : Decidable (dng o x p) := inferInstanceAs (Decidable (_ ∧ _))
/-- .. at one of the polls -/
def dngs (o : List Int) (ps : List Nat) (x : Int) : Bool := ps.any fun p => decide (dng o x p)
theorem dngs_iff {o : List Int} {ps : List Nat} {x : Int} : dngs o ps x = true ↔ ∃ p ∈ ps, dng o x p := by simp [dngs]
theorem lost_fwd {o : List Int} {x : Int} : ∀ (ps : List Nat) (c : Int), 0 ≤ c → x ≠ c → x ∉ (rd o c ps).flatten → x < cur o c ps → x < c ∨ ∃ p ∈ ps, dng o x p
  | [], c, _, _, _, h => .inl h
  | p :: ps, c, h0, hx, hr, h => by
    rw [rd, List.flatten_cons, List.mem_append] at hr
    have hr1 : ¬ (x ∈ o.take p ∧ c < x) := fun q => hr (.inl (mem_rows.mpr q))
    have e := cur_step (o := o) (p := p) h0
    have hx' : x ≠ mxl c (rows o c p) := by
      intro q
      rcases mxl_mem (rows o c p) c with z | z
      · exact hx (q.trans z)
      · rw [← q] at z
        exact hr (.inl z)
    rcases lost_fwd ps _ (Int.le_trans h0 (mxl_ge _ c)) hx' (fun q => hr (.inr q)) h with q | ⟨q, hq, d⟩
    · rw [e] at q
      by_cases hc : x < c
      · exact .inl hc
      · have ht : x < topN o p := by omega
        refine .inr ⟨p, .head _, fun z => hr1 ⟨z, by omega⟩, ht⟩
    · exact .inr ⟨q, .tail _ hq, d⟩
theorem lost_bwd {o : List Int} {x : Int} : ∀ (ps : List Nat) (c : Int), 0 ≤ c → ps.Pairwise (· ≤ ·) → (∃ p ∈ ps, dng o x p) → x ∉ (rd o c ps).flatten ∧ x < cur o c ps
  | p :: ps, c, h0, hs, ⟨q, hq, d1, d2⟩ => by
    have e := cur_step (o := o) (p := p) h0
    rw [List.pairwise_cons] at hs
    have hpq : p ≤ q := by
      cases hq with
      | head => exact Nat.le_refl _
      | tail _ h => exact hs.1 q h
    have hx : x ∉ rows o c p := fun z => d1 (take_mono hpq (mem_rows.mp z).1)
    rw [rd, List.flatten_cons, List.mem_append]
    show ¬ (_ ∨ _) ∧ x < cur o (mxl c (rows o c p)) ps
    cases hq with
    | head =>
      refine ⟨?_, ?_⟩
      · rintro (z | z)
        · exact hx z
        · exact rd_low ps _ (by rw [e]; omega) z
      · have := cur_ge o ps (mxl c (rows o c p))
        omega
    | tail _ h =>
      have ih := lost_bwd ps (mxl c (rows o c p)) (Int.le_trans h0 (mxl_ge _ c)) hs.2 ⟨q, h, d1, d2⟩
      exact ⟨fun z => z.elim hx ih.1, ih.2⟩
/-- lost are exactly the ids with a poll in their danger -/
theorem lost_iff {o : List Int} {ps : List Nat} (ho : IsOrd o) (hp : IsPolls o ps) {x : Int} (hx : x ∈ o) : (x ∉ (rd o 0 ps).flatten ∧ x < cur o 0 ps) ↔ dngs o ps x = true := by
  rw [dngs_iff]
  constructor
  · rintro ⟨h1, h2⟩
    have p := ho.pos x hx
    rcases lost_fwd ps 0 (Int.le_refl _) (by omega) h1 h2 with q | q
    · omega
    · exact q
  · exact lost_bwd ps 0 (Int.le_refl _) hp.up
def lostL (o : List Int) (ps : List Nat) : List Int := (srt o).filter (dngs o ps)
theorem mem_lostL {o : List Int} {ps : List Nat} {x : Int} : x ∈ lostL o ps ↔ x ∈ o ∧ dngs o ps x = true := by
  unfold lostL
  rw [List.mem_filter, mem_srt]
theorem lostL_len (o : List Int) (ps : List Nat) : (lostL o ps).length ≤ o.length := by
  unfold lostL
  exact Nat.le_trans (List.length_filter_le _ _) (by rw [srt_len]; exact Nat.le_refl _)
theorem lostL_nil (o : List Int) : lostL o [] = [] := by
  unfold lostL
  rw [List.filter_eq_nil_iff]
  intro x _ h
  simp [dngs] at h

/-! ### the states, 0 read, 1 lost, 2 open -/
inductive Stt where | read | lost | op
  deriving DecidableEq
def stt (R : List Int) (C : Int) (x : Int) : Stt := if x ∈ R then .read else if x < C then .lost else .op
theorem stt_lost {R : List Int} {C x : Int} : stt R C x = .lost ↔ x ∉ R ∧ x < C := by
  unfold stt
  by_cases h1 : x ∈ R
  · simp [h1]
  · by_cases h2 : x < C <;> simp [h1, h2]
/-- the lost ones among the states -/
theorem lost_by_states {o : List Int} {ps : List Nat} (ho : IsOrd o) (hp : IsPolls o ps) : (srt o).filter (fun x => decide (stt (rd o 0 ps).flatten (cur o 0 ps) x = .lost)) = lostL o ps := by
  unfold lostL
  refine List.filter_congr fun x hx => ?_
  have h := lost_iff ho hp (mem_srt.mp hx)
  rw [← stt_lost] at h
  cases hd : dngs o ps x with
  | true => rw [decide_eq_true_iff]; exact h.mpr hd
  | false =>
    rw [decide_eq_false_iff_not]
    intro z
    rw [h.mp z] at hd
    cases hd

/-! ### one poll alone -/
def missed (o : List Int) (p : Nat) : List Int := srt ((o.drop p).filter fun x => decide (x < topN o p))
theorem mem_drop_iff {o : List Int} (ho : o.Nodup) {p : Nat} {x : Int} : x ∈ o.drop p ↔ x ∈ o ∧ x ∉ o.take p := by
  have e : o.take p ++ o.drop p = o := List.take_append_drop p o
  have hn : (o.take p ++ o.drop p).Nodup := by rw [e]; exact ho
  rw [List.nodup_append] at hn
  constructor
  · intro h
    refine ⟨List.mem_of_mem_drop h, fun q => hn.2.2 x q x h rfl⟩
  · rintro ⟨h1, h2⟩
    rw [← e, List.mem_append] at h1
    exact h1.resolve_left h2
theorem mem_missed {o : List Int} (ho : o.Nodup) {p : Nat} {x : Int} : x ∈ missed o p ↔ x ∈ o ∧ dng o x p := by
  unfold missed dng
  rw [mem_srt, List.mem_filter, mem_drop_iff ho]
  simp [and_assoc]
theorem missed_len (o : List Int) (p : Nat) : (missed o p).length ≤ o.length := by
  unfold missed
  rw [srt_len]
  exact Nat.le_trans (List.length_filter_le _ _) (by rw [List.length_drop]; omega)
/-- the union of what the polls make lost -/
theorem union_is {o : List Int} {ps : List Nat} (ho : IsOrd o) {ks : List Int} (hn : ks.Nodup) (h : ∀ x, x ∈ ks ↔ ∃ p ∈ ps, x ∈ missed o p) : srt ks = lostL o ps := by
  refine filter_is_srt ho.nd hn fun x => ?_
  rw [h, dngs_iff]
  constructor
  · rintro ⟨p, hp, hm⟩
    rw [mem_missed ho.nd] at hm
    exact ⟨hm.1, p, hp, hm.2⟩
  · rintro ⟨hx, p, hp, d⟩
    exact ⟨p, hp, (mem_missed ho.nd).mpr ⟨hx, d⟩⟩

/-! ### the danger -/
/-- (m, k) is the danger of x -/
def IsDanger (o : List Int) (x : Int) : Option (Nat × Nat) → Prop
  | some (m, k) => o[k]? = some x ∧ m ≤ k ∧ x < topN o m ∧ ∀ j, j < m → topN o j ≤ x
  | none => ∃ k : Nat, o[k]? = some x ∧ ∀ j : Nat, j ≤ k → topN o j ≤ x
theorem not_take_iff {o : List Int} (ho : o.Nodup) {k p : Nat} {x : Int} (h : o[k]? = some x) : x ∉ o.take p ↔ p ≤ k := by
  obtain ⟨hk, e⟩ := List.getElem?_eq_some_iff.mp h
  constructor
  · intro hn
    refine Nat.le_of_not_lt fun q => hn ?_
    exact List.mem_of_getElem? (show (o.take p)[k]? = some x by rw [List.getElem?_take_of_lt q]; exact h)
  · intro hp hm
    obtain ⟨j, hj⟩ := List.getElem?_of_mem hm
    have hj2 : j < p ∧ o[j]? = some x := by
      by_cases q : j < p
      · rw [List.getElem?_take_of_lt q] at hj
        exact ⟨q, hj⟩
      · rw [List.getElem?_eq_none (by rw [List.length_take]; omega)] at hj
        cases hj
    obtain ⟨hj3, e2⟩ := List.getElem?_eq_some_iff.mp hj2.2
    have ee : o[j] = o[k] := e2.trans e.symm
    have := (List.getElem_inj (h₀ := hj3) (h₁ := hk) ho).mp ee
    omega
/-- a poll lies in the danger -/
theorem danger_hit {o : List Int} (ho : o.Nodup) {x : Int} {m k p : Nat} (h : IsDanger o x (some (m, k))) : (m ≤ p ∧ p ≤ k) ↔ dng o x p := by
  obtain ⟨h1, h2, h3, h4⟩ := h
  unfold dng
  rw [not_take_iff ho h1]
  constructor
  · rintro ⟨a, b⟩
    refine ⟨b, ?_⟩
    have := topN_mono (o := o) a
    omega
  · rintro ⟨a, b⟩
    refine ⟨?_, a⟩
    refine Nat.le_of_not_lt fun q => ?_
    have := h4 p q
    omega
theorem danger_none {o : List Int} (ho : o.Nodup) {x : Int} {p : Nat} (h : IsDanger o x none) : ¬ dng o x p := by
  obtain ⟨k, h1, h2⟩ := h
  rintro ⟨a, b⟩
  rw [not_take_iff ho h1] at a
  have := h2 p a
  omega

/-! ### one poll more -/
theorem more_lost {o : List Int} {ps qs : List Nat} (h : ∀ p ∈ ps, p ∈ qs) {x : Int} (hx : x ∈ lostL o ps) : x ∈ lostL o qs := by
  rw [mem_lostL, dngs_iff] at *
  obtain ⟨a, p, hp, d⟩ := hx
  exact ⟨a, p, h p hp, d⟩

/-! ### ranks -/
def rk (o : List Int) (c : Int) : Nat := o.countP fun x => decide (x ≤ c)
theorem rk_le (o : List Int) (c : Int) : rk o c ≤ o.length := List.countP_le_length
theorem countP_mono {o : List Int} {f g : Int → Bool} (h : ∀ x ∈ o, f x = true → g x = true) : o.countP f ≤ o.countP g := List.countP_mono_left h
theorem rk_mono (o : List Int) {c d : Int} (h : c ≤ d) : rk o c ≤ rk o d := countP_mono fun x _ q => by simp at *; omega
theorem countP_lt {f g : Int → Bool} : ∀ {o : List Int}, (∀ x ∈ o, f x = true → g x = true) → ∀ {y : Int}, y ∈ o → f y = false → g y = true → o.countP f < o.countP g
  | a :: r, h, y, hy, h1, h2 => by
    have hr : ∀ x ∈ r, f x = true → g x = true := fun x hx => h x (.tail _ hx)
    rw [List.countP_cons, List.countP_cons]
    cases hy with
    | head =>
      have := countP_mono hr
      rw [h1, h2]
      simp
      omega
    | tail _ hy =>
      have ih := countP_lt hr hy h1 h2
      have ha := h a (.head _)
      cases e : f a with
      | false => simp; omega
      | true => rw [ha e]; simp; omega
theorem rk_lt {o : List Int} {c x : Int} (hx : x ∈ o) (h : c < x) : rk o c < rk o x :=
  countP_lt (fun y _ q => by simp at *; omega) hx (by simp; omega) (by simp)
theorem rk_lt_iff {o : List Int} {c x : Int} (hx : x ∈ o) : c < x ↔ rk o c < rk o x := by
  constructor
  · exact rk_lt hx
  · intro h
    refine Int.not_le.mp fun q => ?_
    have := rk_mono o q
    omega
theorem rk_lt_iff' {o : List Int} {x c : Int} (hc : c ∈ o ∨ c = 0) (hx : x ∈ o) (hp : ∀ x ∈ o, 1 ≤ x) : x < c ↔ rk o x < rk o c := by
  rcases hc with hc | hc
  · exact rk_lt_iff hc
  · constructor
    · intro h
      have := hp x hx
      omega
    · intro h
      have e : rk o c = 0 := by
        unfold rk
        rw [List.countP_eq_zero]
        intro y hy z
        have := hp y hy
        simp at z
        omega
      omega
theorem rk_inj {o : List Int} {x y : Int} (hx : x ∈ o) (hy : y ∈ o) (h : rk o x = rk o y) : x = y := by
  have a := rk_lt_iff (o := o) (c := x) hy
  have b := rk_lt_iff (o := o) (c := y) hx
  omega
theorem rk_zero {o : List Int} (hp : ∀ x ∈ o, 1 ≤ x) : rk o 0 = 0 := by
  unfold rk
  rw [List.countP_eq_zero]
  intro y hy z
  have := hp y hy
  simp at z
  omega
theorem rk_srt (o : List Int) (c : Int) : rk (srt o) c = rk o c := (srt_perm o).countP_eq _
/-- the i-th of the sorted ids has the rank i + 1 -/
theorem rk_at {o : List Int} (ho : o.Nodup) {i : Nat} {x : Int} (h : (srt o)[i]? = some x) : rk o x = i + 1 := by
  rw [← rk_srt]
  have hp := srt_pw o
  have hn := srt_nodup ho
  generalize srt o = s at h hp hn
  unfold rk
  clear ho
  induction s generalizing i with
  | nil => simp at h
  | cons a r ih =>
    rw [List.pairwise_cons] at hp
    rw [List.nodup_cons] at hn
    cases i with
    | zero =>
      simp at h
      subst h
      rw [List.countP_cons_of_pos (by simp)]
      have : r.countP (fun x => decide (x ≤ a)) = 0 := by
        rw [List.countP_eq_zero]
        intro y hy z
        have h1 := hp.1 y hy
        simp at z
        have : y = a := by omega
        exact hn.1 (this ▸ hy)
      omega
    | succ i =>
      simp at h
      have hx : x ∈ r := List.mem_of_getElem? h
      have h1 := hp.1 x hx
      rw [List.countP_cons_of_pos (by simpa using h1), ih h hp.2 hn.2]

/-! ### missed counts -/
theorem count_zero {o : List Int} (ho : IsOrd o) {p : Nat} (hp : p ≤ o.length) (h : (rk o (topN o p) : Int) - (p : Int) = 0) {x : Int} (hx : x ∈ o) : ¬ dng o x p := by
  rintro ⟨h1, h2⟩
  have e : rk o (topN o p) = p := by omega
  have a : o.countP (fun y => decide (y ∈ o.take p)) < o.countP (fun y => decide (y ≤ topN o p)) := by
    refine countP_lt (fun y _ q => ?_) hx (by simpa using h1) (by simp; omega)
    simp at *
    exact topN_ge q
  have b : p ≤ o.countP (fun y => decide (y ∈ o.take p)) := by
    have c : (o.take p).countP (fun y => decide (y ∈ o.take p)) = (o.take p).length := by
      rw [List.countP_eq_length]
      intro y hy
      simpa using hy
    have d : (o.take p).countP (fun y => decide (y ∈ o.take p)) ≤ o.countP (fun y => decide (y ∈ o.take p)) := (List.take_sublist p o).countP_le
    rw [c, List.length_take] at d
    omega
  unfold rk at e
  omega
theorem quiet_none {o : List Int} {qs : List Nat} (ho : IsOrd o) (hq : ∀ q ∈ qs, q ≤ o.length ∧ (rk o (topN o q) : Int) - (q : Int) = 0) : lostL o qs = [] := by
  unfold lostL
  rw [List.filter_eq_nil_iff]
  intro x hx h
  rw [dngs_iff] at h
  obtain ⟨p, hp, d⟩ := h
  exact count_zero ho (hq p hp).1 (hq p hp).2 (mem_srt.mp hx) d

/-! ### ranks carry what a reader gets -/
def rki (o : List Int) (x : Int) : Int := (rk o x : Int)
theorem rki_pw {o : List Int} : ∀ {l : List Int}, l.Pairwise (· ≤ ·) → (l.map (rki o)).Pairwise (· ≤ ·) := fun {l} h => by
  rw [List.pairwise_map]
  exact h.imp fun q => by
    have := rk_mono o q
    unfold rki
    omega
theorem srt_rki (o l : List Int) : srt (l.map (rki o)) = (srt l).map (rki o) := (srt_eq ((srt_perm l).map _) (rki_pw (srt_pw l))).symm
theorem filter_rki {o l : List Int} {c : Int} (hl : ∀ x ∈ l, x ∈ o) : (l.map (rki o)).filter (fun x => decide (rki o c < x)) = (l.filter fun x => decide (c < x)).map (rki o) := by
  rw [List.filter_map]
  refine congrArg _ (List.filter_congr fun x hx => ?_)
  show decide (rki o c < rki o x) = decide (c < x)
  have := rk_lt_iff (o := o) (c := c) (hl x hx)
  unfold rki
  by_cases h : c < x
  · rw [decide_eq_true h, decide_eq_true (by omega)]
  · rw [decide_eq_false h, decide_eq_false (by omega)]
/-- a live reader over the ranks -/
theorem rows_rki {o : List Int} {c : Int} {p : Nat} : srt (((o.take p).map (rki o)).filter fun x => decide (rki o c < x)) = (rows o c p).map (rki o) := by
  rw [filter_rki (fun x hx => List.mem_of_mem_take hx), srt_rki]
  rfl
theorem mxl_rki {o : List Int} : ∀ (xs : List Int) (c : Int), mxl (rki o c) (xs.map (rki o)) = rki o (mxl c xs)
  | [], _ => rfl
  | x :: r, c => by
    show mxl (max (rki o c) (rki o x)) (r.map (rki o)) = rki o (mxl (max c x) r)
    rw [← mxl_rki r (max c x)]
    refine congrArg (fun z => mxl z _) ?_
    rcases Int.le_total c x with q | q
    · have := rk_mono o q
      rw [Int.max_eq_right q]
      unfold rki
      omega
    · have := rk_mono o q
      rw [Int.max_eq_left q]
      unfold rki
      omega
/-- what a live reader has lost -/
theorem live_lost {o : List Int} {ps : List Nat} (ho : IsOrd o) (hp : IsPolls o ps) :
    srt (((o.map (rki o)).filter fun x => decide (x < rki o (cur o 0 ps))).filter fun x => !decide (x ∈ (rd o 0 ps).flatten.map (rki o))) = (lostL o ps).map (rki o) := by
  have hc : cur o 0 ps ∈ o ∨ cur o 0 ps = 0 := by
    rcases cur_mem (o := o) ps 0 with h | h
    · exact .inr h
    · exact .inl (rd_sub ps 0 h)
  have e1 : (o.map (rki o)).filter (fun x => decide (x < rki o (cur o 0 ps))) = (o.filter fun x => decide (x < cur o 0 ps)).map (rki o) := by
    rw [List.filter_map]
    refine congrArg _ (List.filter_congr fun x hx => ?_)
    show decide (rki o x < rki o (cur o 0 ps)) = decide (x < cur o 0 ps)
    have := rk_lt_iff' hc hx ho.pos
    unfold rki
    by_cases h : x < cur o 0 ps
    · rw [decide_eq_true h, decide_eq_true (by omega)]
    · rw [decide_eq_false h, decide_eq_false (by omega)]
  rw [e1, List.filter_map, srt_rki]
  refine congrArg _ ?_
  unfold lostL
  rw [← srt_filter]
  refine congrArg _ ?_
  rw [List.filter_filter]
  refine List.filter_congr fun x hx => ?_
  have h := lost_iff ho hp hx
  have hm : rki o x ∈ (rd o 0 ps).flatten.map (rki o) ↔ x ∈ (rd o 0 ps).flatten := by
    rw [List.mem_map]
    constructor
    · rintro ⟨y, hy, e⟩
      have : y = x := rk_inj (rd_sub ps 0 hy) hx (by unfold rki at e; omega)
      exact this ▸ hy
    · exact fun q => ⟨x, q, rfl⟩
  show ((!decide (rki o x ∈ (rd o 0 ps).flatten.map (rki o))) && decide (x < cur o 0 ps)) = dngs o ps x
  cases hd : dngs o ps x with
  | true =>
    have q := h.mpr hd
    rw [decide_eq_false (fun z => q.1 (hm.mp z)), decide_eq_true q.2]
    rfl
  | false =>
    by_cases z1 : x ∈ (rd o 0 ps).flatten
    · rw [decide_eq_true (hm.mpr z1)]
      rfl
    · rw [decide_eq_false (fun z => z1 (hm.mp z))]
      have z2 : ¬ x < cur o 0 ps := fun z2 => by
        rw [h.mp ⟨z1, z2⟩] at hd
        cases hd
      rw [decide_eq_false z2]
      rfl
/-! ### turn by turn -/
theorem rd_take {o : List Int} {c : Int} {ps : List Nat} {i p : Nat} (h : ps[i]? = some p) : rd o c (ps.take (i + 1)) = rd o c (ps.take i) ++ [rows o (cur o c (ps.take i)) p] := by
  rw [List.take_add_one, h, rd_append]
  rfl
theorem cur_take {o : List Int} {c : Int} {ps : List Nat} {i p : Nat} (h : ps[i]? = some p) : cur o c (ps.take (i + 1)) = mxl (cur o c (ps.take i)) (rows o (cur o c (ps.take i)) p) := by
  rw [List.take_add_one, h, cur_append]
  rfl
theorem cur_eq (o : List Int) : ∀ (ps : List Nat) (c : Int), cur o c ps = mxl c (rd o c ps).flatten
  | [], _ => rfl
  | p :: ps, c => by
    rw [rd, List.flatten_cons, mxl_append]
    exact cur_eq o ps _
/-- the test of the general reader is the plain one's -/
theorem plain_test {o : List Int} {ps : List Nat} {x : Int} (hx : 1 ≤ x) : (!decide (x ∈ (rd o 0 ps).flatten) && (decide (cur o 0 ps - 1 < x) || false)) = decide (cur o 0 ps < x) := by
  rw [Bool.or_false]
  by_cases h : cur o 0 ps < x
  · have h1 : x ∉ (rd o 0 ps).flatten := fun z => by
      have := rd_le ps 0 z
      omega
    rw [decide_eq_false h1, decide_eq_true h, decide_eq_true (by omega)]
    rfl
  · rw [decide_eq_false h]
    by_cases e : x = cur o 0 ps
    · have h1 : x ∈ (rd o 0 ps).flatten := by
        rcases cur_mem (o := o) ps 0 with z | z
        · omega
        · rw [e]
          exact z
      rw [decide_eq_true h1]
      rfl
    · rw [decide_eq_false (show ¬ cur o 0 ps - 1 < x by omega), Bool.and_false]
theorem rows_nodup {o : List Int} (ho : o.Nodup) (c : Int) (p : Nat) : (rows o c p).Nodup := by
  unfold rows
  exact srt_nodup (List.Pairwise.filter _ ((List.take_sublist p o).nodup ho))
theorem rd_flat_len {o : List Int} (ho : o.Nodup) (ps : List Nat) (c : Int) : (rd o c ps).flatten.length ≤ o.length :=
  List.Nodup.length_le_of_subset (rd_nodup ho ps c) fun x hx => rd_sub ps c hx
end Lm

/-! ## Kx1 -/
set_option Elab.async false
set_option linter.all false
set_option maxRecDepth 100000
set_option maxHeartbeats 2000000
/-! Rules that the layer lacks, first part: powers of great ints, list.count of bools, attribute targets, dict.update, enumerate(xs, k). -/
namespace Kx
open PySem PySem.Spec PyProof.Rows L2
section
variable {X : Cx}
/-! ### ** of great ints -/
def CPowW (i j : Int) : Prop := 0 ≤ j ∧ j ≤ 3 ∧ i.natAbs < 2 ^ 1000
theorem op_powW : OpR X (binaryOp .Pow) (rI CPowW fun i j => .int (i ^ j.toNat)) := opI fun i j _ _ _ _ _ hc q => by
  obtain ⟨h1, h2, h3⟩ := hc
  refine pow_int h1 ?_ q
  have x := PySem.Flt.log2_lt_of (by decide : 0 < 1000) h3
  have b : Builtin.Int.intBits i ≤ i.natAbs.log2 + 1 := by
    unfold Builtin.Int.intBits
    split <;> omega
  have c : (Builtin.Int.intBits i : Int) ≤ 1000 := by omega
  have d : (Builtin.Int.intBits i : Int) * j ≤ 1000 * j := Int.mul_le_mul_of_nonneg_right c h1
  omega
/-! ### xs.count(b) of bools -/
def eqbl (k : Bool) (v : Value) : Bool := match v with
  | .bool n => n == k
  | _ => false
theorem bl_vals {k : Bool} {A : Around} {s : Shared} : ∀ {bs : List Bool} {us : List Value}, Vals (bs.map V.bl) us → (∀ y ∈ us, SeqAt.EqAt A s y (.bool k) (eqbl k y)) ∧ us.countP (eqbl k) = bs.count k
  | [], _, .nil => ⟨fun y hy => absurd hy (List.not_mem_nil), rfl⟩
  | b :: bs, _, .cons r t => by
    obtain ⟨h1, h2⟩ := bl_vals (k := k) (A := A) (s := s) t
    cases r
    refine ⟨fun y hy => ?_, ?_⟩
    · rcases List.mem_cons.mp hy with e | e
      · rw [e]
        exact SeqAt.EqAt.bool_bool b k
      · exact h1 y e
    · rw [List.countP_cons, List.count_cons, h2]
      rfl
def rCntB (K : PySem.W.Frag) : V → List V → Hp → VK → Prop := fun x xs H Q => ∃ (p : Addr) (bs : List Bool) (k : Bool), x = .ref p ∧ xs = [.bl k] ∧ SqL K H p (bs.map V.bl) ∧ Q (.int (bs.count k : Nat)) H
theorem mt_countB : MtR X "list.count" (rCntB X.K) := by
  intro pins s σ H x xs v us Q I rx rxs h
  obtain ⟨p, bs, k, rfl, rfl, hs, q⟩ := h
  cases rx
  obtain ⟨u, rfl, ru⟩ := vals1 rxs
  cases ru
  obtain ⟨its, rv, ⟨⟨cls, dd, data, sl⟩, n, ho, hc, hdn, hd⟩, hlen⟩ := I.list hs
  simp only at hc hd
  subst hc hd
  refine call_meets PySem.F.slot_list_count ⟨_, ho, rfl⟩ PySem.F.entry_list_count (PySem.F.args_list_count_2 _ _)
    (SeqAt.list_countAt p its.toArray n dd sl (.bool k) (eqbl k)) ⟨ho, fun y hy => (bl_vals rv).1 y (by simpa using hy), ?_⟩
  have ec : its.toArray.toList.countP (eqbl k) = bs.count k := (bl_vals (A := X.A) (s := s) rv).2
  refine ⟨.int (bs.count k : Nat), H, I.tok _, ⟨s.toks, ?_⟩, q⟩
  show Value.int ((its.toArray.toList.countP (eqbl k) : Nat) : Int) s.toks = Value.int ((bs.count k : Nat) : Int) s.toks
  rw [ec]
/-! ### o.f as a target among others -/
def gFld (K : PySem.W.Frag) (ta : TE) (f : Str) : TG := fun v σ H Q => ta σ H fun x H2 => ∃ a C dx fs, x = .ref a ∧ H2 a = some (.ins C dx fs) ∧ Cls K C ∧ NoAttr K C f ∧ fs.length < 1000 ∧ Q σ (upd H2 a (.ins C dx (putF f v fs)))
theorem pg_fld {o : Expr} {ta : TE} {f : Str} {pos : Pos} (ho : PE X o ta)
    (ha : ∀ v, assign (.Attribute o f pos) X.env v = (do
      let ov ← holding [v] (eval o X.env)
      standAt pos.atName
      holding [v, ov] (setAttr ov f v)
      release [v, ov] []) := by intro _; rfl) : PG X (.Attribute o f pos) (gFld X.K ta f) := by
  refine ⟨fun pins s σ H v u Q I r h => ?_⟩
  rw [ha]
  refine wpAny_bind (wpAny_holding (thn (ho.run pins s σ H _ I h) fun ov s1 ⟨x, H1, I1, rx, a, C, dx, fs, ex, ea, c, n, l, q⟩ => ?_))
  subst ex
  obtain rfl : ov = Value.ref a := rx
  refine wpAny_bind (wpAny_standAt (wpAny_bind (wpAny_holding (setattr_ok I1 ea c n l r fun s3 I3 => ?_))))
  exact wpAny_release ⟨σ, _, I3, q⟩
/-! ### d.update(e) -/
def rDUpd : V → List V → Hp → VK → Prop := fun x vs H Q => ∃ (d e : Addr) (ks ls : List (Key × V)), x = .ref d ∧ vs = [.ref e] ∧ H d = some (.dK ks) ∧ H e = some (.dK ls) ∧ d ≠ e ∧ ks.length + ls.length ≤ sizeLine ∧ Q .non (upd H d (.dK (mergeK ks ls)))
theorem mt_dupdate : MtR X "dict.update" rDUpd := by
  intro pins s σ H x vs v us Q I rx rv h
  obtain ⟨d, e, ks, ls, rfl, rfl, hd, he, hne, hz, q⟩ := h
  cases rx
  obtain ⟨u1, rfl, r1⟩ := vals1 rv
  cases r1
  obtain ⟨z, lo, vd, rel, dd⟩ := dk_of I.hok hd
  obtain ⟨z2, lo2, vd2, rel2, dd2⟩ := dk_of I.hok he
  refine call_meetsIn PySem.F.slot_dict_update dd.typeIs PySem.F.entry_dict_update (PySem.F.args_dict_update_2 _ _) (meets_dict_update (mixKind X.prog X.w) d e hne lo2)
    ⟨vd, vd2, dd, dd2, by rw [← rel.length, ← rel2.length]; exact hz, fun h' hmm _ hs => ?_⟩
  obtain ⟨ob, hob, _⟩ := Heap.dictOf_iff.mp hmm
  have zz : (mergeK ks ls).length ≤ sizeLine := Nat.le_trans (length_mergeK ls ks) hz
  exact ⟨.non, _, d_write (t' := s.toks) I (by rw [hd]; trivial) hs ⟨ob, hob⟩ (dk_new zz lo (KV.merge rel2 rel) hmm), rfl, q⟩
end
/-! ### enumerate(xs, k), k a small number -/
def IteS (K : PySem.W.Frag) (a : Addr) (k : Int) : It :=
  ⟨fun i H => ∃ (xs : List V) (x : V), SqL K H a xs ∧ xs[i]? = some x, fun i H v H' => ∃ T x, v = .ref T ∧ H T = none ∧ H' = upd H T (.tup [.int (k + (i : Nat)), x]) ∧ ∀ xs, SqL K H a xs → xs[i]? = some x, fun i H => ∃ xs : List V, SqL K H a xs ∧ xs.length ≤ i⟩
theorem next_enumSE {prog : Program} {w : World} {A : Around} {E : Value → Shared → Prop} {s : Shared} {e it l : Addr} {i : Nat} {c : Int} {items : Array Value} {old : Value} {Q : Option Value → Shared → Prop} (hh : A.handled = none)
    (he : IsEnum s.heap e it c old) (hit : s.heap.IsListIter it l i) (hl : s.heap.IsList l items) (hx : items[i]? = none)
    (hQ : ∀ h', Heap.ExtBut it s.heap h' → Q none { s with heap := h' }) : wpAny (model prog w) A (pyNext (.ref e)) Q E s := by
  unfold pyNext
  have hT : s.TypeIs (.ref e) "enumerate" := ⟨_, he, rfl⟩
  refine wpAny_bind (wpAny_attempt (wpAny_callSpecial?_slot (name := Str.ofString "__next__") hT F.slot_enumerate_next (wpAny_call_entry F.slot_enumerate_next hT F.entry_enumerate_next ?_ (F.args_enumerate_next_1 _))))
  show wpAny _ _ (field (.ref e) 2 >>= _) _ _ _
  refine wpAny_bind (wpAny_field he rfl (x := .ref it) rfl (wpAny_bind (wpAny_nextOf_list_end hh hit hl hx fun h' x he' ⟨o, ho, hc⟩ => ?_)))
  exact wpAny_bind (wpAny_isInstance (T := "StopIteration") (b := true) ⟨o, ho, hc⟩ isSubtype_stop (wpAny_pure (hQ _ he')))
theorem turn_enumS {P : Program} {w : World} {K : PySem.W.Frag} {elts : List Expr} {kk : Nat} {tpos : Pos} (a e it : Addr) (k0 : Int) :
    Turn P w K (.Tuple elts kk tpos) (IteS K a k0) [e, it] e (fun i h => (∃ old, IsEnum h e it (k0 + ((i : Nat) : Int)) old) ∧ h.IsListIter it a i ∧ e ≠ it) where
  mem := by simp
  obj := fun i h st b hb => by
    obtain ⟨⟨old, he⟩, ⟨o, ho, hc, hd⟩, _⟩ := st
    have e' : b = e ∨ b = it := by simpa using hb
    rcases e' with z | z
    · rw [z]; exact ⟨_, he, fun v q => nomatch q⟩
    · rw [z]; exact ⟨o, ho, fun v q => by rw [hd] at q; cases q⟩
  keep := fun i h h' st k => let ⟨⟨old, he⟩, hi, hne⟩ := st; ⟨⟨old, k e (by simp) _ he⟩, hi.at fun o q => k it (by simp) o q, hne⟩
  item := by
    intro X hP hw hK hc i pins s σ H E I hf st hg
    subst hP hw hK
    obtain ⟨⟨old, he⟩, hit, hne⟩ := st
    obtain ⟨xs, x, hq, hx⟩ := hg
    obtain ⟨its, rv, p, hz⟩ := I.list hq
    obtain ⟨u, hu, ru⟩ := rv.get hx
    have hel : e < s.heap.objs.size := Heap.lt_size he
    have hil : it < s.heap.objs.size := by obtain ⟨_, q, _⟩ := hit; exact Heap.lt_size q
    have hea : e ≠ a := by
      intro z
      obtain ⟨o2, h2, c2, _⟩ := p.isList
      rw [← z, he] at h2
      rw [← Option.some.inj h2] at c2
      exact absurd (Value.type.inj c2) (by decide)
    have hia : a ≠ it := by
      intro z
      obtain ⟨o2, h2, c2, _⟩ := p.isList
      obtain ⟨o3, h3, c3, _⟩ := hit
      rw [z, h3] at h2
      rw [← Option.some.inj h2, c3] at c2
      exact absurd (Value.type.inj c2) (by decide)
    have hit0 := hit
    refine wpAny_pyNext_enum_itemC (Draws.list (A := X.A.in1) (show X.A.in1.handled = none from I.ok.hd hc) it a hia its.toArray) he ⟨hit, p.isList⟩ (Array.getElem?_eq_some_iff.mp (show its.toArray[i]? = some u by simpa using hu)).1 hne (by simp [hne, hea]) fun x' h' tk hx' ho hst' hT hsz hk => ?_
    have exu : x' = u := by
      have q : its.toArray[i]? = some u := by simpa using hu
      rw [q] at hx'
      exact (Option.some.inj hx').symm
    subst exu
    obtain ⟨hit', _⟩ := hst'
    refine ⟨_, rfl, wpAny_letOwnedTupleGo_enum (s := { s with heap := h', toks := tk + 1 }) ho fun h'' he' sb => ?_⟩
    have hT2 : h''.get? s.heap.objs.size = some { cls := .type "tuple", data := .seq #[.int (k0 + (i : Nat)) tk, x'] } := (sb.2 _ (Nat.ne_of_gt hel)).trans hT
    have new : ObjOk X.prog X.w (upd H s.heap.objs.size (.tup [.int (k0 + (i : Nat)), x])) h'' s.heap.objs.size (.tup [.int (k0 + (i : Nat)), x]) :=
      ⟨by show 2 ≤ sizeLine; decide, [.int (k0 + (i : Nat)) tk, x'], .cons ⟨_, rfl⟩ (.cons ru .nil), ⟨_, hT2, rfl, _, rfl⟩⟩
    have I1 : Inv X pins σ (upd H s.heap.objs.size (.tup [.int (k0 + (i : Nat)), x])) { s with heap := h'', toks := tk + 1 } :=
      I.turnedNew (ch := [e, it]) (fun b ob hb q => (sb.2 b (fun z => hb (by simp [z]))).trans (hk b ob (fun z => hb (by simp [z])) (fun z => hb (by simp [z])) q)) hf (Nat.le_refl _) new
    refine ⟨.ref s.heap.objs.size, _, I1, rfl, ⟨_, x, rfl, I.hok.fresh (Nat.le_refl _), rfl, fun ys hy => by rw [I.list_inj hy hq]; exact hx⟩, ⟨⟨x', ?_⟩, hit'.at fun o q => (sb.2 it (Ne.symm hne)).trans q, hne⟩, fun b hb => ?_⟩
    · have e1 : k0 + ((i + 1 : Nat) : Int) = k0 + (i : Int) + 1 := by omega
      rw [e1]; exact he'
    · have hb' : b < s.heap.objs.size := by
        have e' : b = e ∨ b = it := by simpa using hb
        rcases e' with z | z
        · rw [z]; exact hel
        · rw [z]; exact hil
      rw [upd_ne (Nat.ne_of_lt hb')]
      exact (hf b hb).1
  done := by
    intro X hP hw hK hc i pins s σ H E I hf st hg
    subst hP hw hK
    obtain ⟨⟨old, he⟩, hit, hne⟩ := st
    obtain ⟨xs, hq, hx⟩ := hg
    obtain ⟨its, rv, p, hz⟩ := I.list hq
    obtain ⟨f0, f1, f2, f3, f4, f5⟩ := hf it (by simp)
    have hl := rv.length
    exact next_enumSE (I.ok.hd hc) he hit p.isList (by simp; omega) fun h' eb => ⟨rfl, I.turned (t' := s.toks) (fun b o hb q => eb b o hb q) f0 f1 f3 f4 f5⟩
  self := fun A i s Q E st h => let ⟨⟨_, he⟩, _⟩ := st; wpAny_pyIter_enum he h
def iEnumS (K : PySem.W.Frag) (ta : TA) : TI := fun σ H R => ta σ H fun vs H1 => ∃ a xs k, vs = [.ref a, .int k] ∧ SqL K H1 a xs ∧ -(2 ^ 63) ≤ k ∧ k < 2 ^ 63 ∧ R (IteS K a k) H1
theorem pi_enumS {X : Cx} {e e2 : Expr} {ta : TA} {p pos tpos : Pos} {elts : List Expr} {kk : Nat} (hg : Gl X "enumerate") (hm : X.mg "enumerate" = none) (ha : PA X [e, e2] ta) (hs : starEach [e, e2] X.env = [(false, eval e X.env), (false, eval e2 X.env)] := by rfl) (hs2 : starEach [e2] X.env = [(false, eval e2 X.env)] := by rfl) :
    PI X (.Tuple elts kk tpos) (.Call (.Name "enumerate" p) [e, e2] [] pos) (iEnumS X.K ta) := by
  refine ⟨fun pins s σ H R I h => ?_⟩
  refine Call_ (ld_blt I hg hm boot_enumerate (PyProof.Rows.callWith_type1 (thn (ha.run pos pins s σ H _ I h) fun us s1 ⟨vs, H1, I1, r1, q1⟩ => ?_) (by rw [hs, hs2]) (by rw [hs2]; rfl)))
  obtain ⟨a, xs, k, ex, hq, hk0, hk1, q⟩ := q1
  subst ex
  obtain ⟨u1, u2, eu, r, r2⟩ := vals2 r1
  subst eu
  cases r
  obtain ⟨t, rfl⟩ := r2
  obtain ⟨its, rv, p', hz⟩ := I1.list hq
  refine enum_begins (begins_list a its.toArray) p'.isList hk0 hk1 fun h' he hit hsz hk => wpAny_pyIter_enum he ?_
  have I2 : Inv X pins σ H1 { s1 with heap := h' } := I1.kept (t' := s1.toks) hk
  refine ⟨s1.heap.objs.size + 1, [s1.heap.objs.size + 1, s1.heap.objs.size], _, _, H1, rfl, I2, turn_enumS a (s1.heap.objs.size + 1) s1.heap.objs.size k, ⟨⟨.none, by simpa using he⟩, ⟨_, hit, rfl, rfl⟩, Nat.succ_ne_self _⟩, fun b hb => ?_, q⟩
  have e' : b = s1.heap.objs.size + 1 ∨ b = s1.heap.objs.size := by simpa using hb
  have hle : s1.heap.objs.size ≤ b := by
    rcases e' with z | z
    · rw [z]; exact Nat.le_add_right _ _
    · rw [z]; exact Nat.le_refl _
  exact I1.fpOk hle (I1.hok.fresh hle)
end Kx

/-! ## Kx2 -/
set_option Elab.async false
set_option linter.all false
set_option maxRecDepth 100000
set_option maxHeartbeats 2000000
/-! A for in a generator's body. -/
namespace Kx
open PySem PySem.Spec PyProof.Rows L2 GenW
section
variable {prog : Program} {w : World} {A : Around} {R : GenEnd} {Y : Protocol} {n : Nat} {s₀ : Shared} {fs : List Frame} {s : Shared} {env : Env}
/-- what the loop's code does with an exception -/
abbrev notes (env : Env) (x : Value) : Sem PySem.Fin := (do noteFrame x env; theTreesLotGoes x : Sem Unit).wrap (fun _ => .raise x) .raise id id
/-- what the loop's code does behind its body -/
abbrev turned (target : Expr) (it : Value) (body : List Stmt) (env : Env) (f : Flow) : Sem PySem.Fin := match f with
  | .next | .cont => .pure (.again (.forLoop target it body [] env))
  | .brk => .pure (.done .next)
  | .ret v => .pure (.done (.ret v))
theorem seg_forLoop {target : Expr} {it : Value} {body : List Stmt} (NE : Value → Shared → Prop)
    (hE : ∀ x s', NE x s' → Seg (model prog w) A R Y n s₀ (.forLoop target it body [] env) (notes env x) fs s')
    (h : wpAny (model prog w) (A.over (.forLoop target it body [] env) fs) (pyNext it) (fun r s1 => match r with
      | none => Seg (model prog w) A R Y n s₀ (.forLoop target it body [] env) (.pure (.again (.block [] env))) fs s1
      | some v => wpAny (model prog w) (A.over (.forLoop target it body [] env) fs) (letOwnedTupleGo target it v) (fun _ s2 =>
          wpAny (model prog w) (A.over (.forLoop target it body [] env) fs) (assign target env v) (fun _ s3 =>
            Seg (model prog w) A R Y n s₀ (.forLoop target it body [] env) ((execs body env).wrap (turned target it body env) (notes env) id id) fs s3) NE s2) NE s1) NE s) :
    Seg (model prog w) A R Y n s₀ (.forLoop target it body [] env) ((model prog w).den (.forLoop target it body [] env)) fs s := by
  show Seg _ A R Y n s₀ _ ((forTurn target it body [] env).onRaise (fun x => do noteFrame x env; theTreesLotGoes x)) fs s
  have hE' : ∀ x s', NE x s' → Seg (model prog w) A R Y n s₀ (.forLoop target it body [] env) ((do noteFrame x env; theTreesLotGoes x : Sem Unit).bind (fun _ => .raise x)) fs s' := fun x s' hx => by
    rw [Sem.bind_eq_wrap]
    exact hE x s' hx
  unfold forTurn
  rw [Sem.onRaise_eq_wrap]
  refine seg_bind_wrap (wpAny_standAt ?_)
  refine seg_bind_wrap (wpAny_onRaise (wpAny_mono h (fun r s1 h1 => ?_) fun x s' hx => wpAny_standAt (hE' x s' hx)))
  cases r with
  | none => exact h1
  | some v =>
    refine seg_bind_wrap (wpAny_mono h1 (fun _ s2 h2 => ?_) hE')
    refine seg_bind_wrap (wpAny_mono h2 (fun _ s3 h3 => ?_) hE')
    rw [Sem.bind_eq_wrap', Sem.wrap_wrap]
    rw [Sem.wrap_congr (execs body env) _ _ (K' := turned target it body env) (H' := notes env) (fun f => by cases f <;> rfl) (fun e => by
      first | exact Sem.bind_eq_wrap _ _ | (show (do noteFrame e env; theTreesLotGoes e : Sem Unit).bind (fun _ => .raise e) = _; rw [Sem.bind_eq_wrap]))]
    exact h3
end
section
variable {X : Cx}
/-- a for whose body hands out; W: the invariant by the turn, a measure and what is out -/
def tGFor (wi : TI) (g : TG) (tb : TGn) : TGn := fun D ys σ H => wi σ H fun J H1 => ∃ W : Nat → Nat → List V → L2.St → Hp → Prop, (∃ m, W 0 m ys σ H1) ∧ ∀ i m ys σ H, W i m ys σ H →
  (J.stop i H ∧ D.nx ys σ H) ∨ (J.go i H ∧ ∃ N : List V → L2.St → Hp → Prop, (∀ ys' σ' H', N ys' σ' H' → ∃ m', m' < m ∧ W (i + 1) m' ys' σ' H') ∧ ∀ x H', J.yld i H x H' → g x σ H' fun σ2 H2 => tb { D with nx := N, ct := N, bk := D.nx } ys σ2 H2)
theorem gs_for {tg iter : Expr} {body : List Stmt} {pos : Pos} {wi : TI} {g : TG} {tb : TGn} (hp : PassesOwn (model X.prog X.w) X.A X.env X.xe) (hcalm : X.calm = true) (hi : PI X tg iter wi) (hg : PG X tg g) (hb : GSs X body tb)
    (hs : ∀ x, foldedSetIterable iter X.env x = pure x := by intro _; rfl) : GS X (.For tg iter body [] pos) (tGFor wi g tb) := by
  refine ⟨fun A S ip R n ys s₀ c fs K J gd lv s σ H D gc hn k hI ht => ?_⟩
  obtain ⟨acc0, c0, r0, I0⟩ := hI
  rw [exec_For]
  have raised : ∀ x s', X.xe x s' → Seg (model X.prog X.w) A R (GY X S) n s₀ c (J x) fs s' := fun x s' hx => k.exc n s₀ x s' hx
  refine seg_bind_wrap (wpAny_standAt ?_)
  refine seg_bind_wrap ?_
  rw [gc.over]
  refine wpAny_mono (hi.run _ s σ H _ I0 ht) (fun v s1 h1 => ?_) raised
  refine seg_bind_wrap (wpAny_of_eq (hs v) ?_)
  refine seg_bind_wrap (wpAny_standAt ?_)
  refine seg_bind_wrap (wpAny_holding ?_)
  rw [gc.over]
  refine wpAny_mono h1 ?_ raised
  rintro itv s2 ⟨it, fp, tn, Jt, H2, rfl, I2, T, st2, f2, W, ⟨m0, w0⟩, turn⟩
  refine seg_call fun p => ?_
  have gl := fun (kk : Result → Sem PySem.Fin) => gc_loop (k := kk) (c' := .forLoop tg (.ref it) body [] X.env) (l := lv []) (kp := []) (p := p) gc rfl rfl
  have stat : ∀ {H' : Hp} {acc : Array Value} {cc : Nat}, (∀ b ∈ fp, H' b = none) → ∀ b ∈ fp, FpOk X ((S, lstObj acc cc) :: ip) H' b := fun {H' acc cc} hnn b hb => by
    obtain ⟨_, a1, a2, a3, a4, a5⟩ := f2 b hb
    refine ⟨hnn b hb, a1, a2, a3, a4, fun q hq => ?_⟩
    rcases List.mem_append.mp hq with z | z
    · exact a5 q (List.mem_append_left _ z)
    · rcases List.mem_cons.mp z with z | z
      · rw [z]
        exact a5 (S, lstObj acc0 c0) (List.mem_append_right _ (.head _))
      · exact a5 q (List.mem_append_right _ (.tail _ z))
  have fpS : ∀ b ∈ fp, b ≠ S := fun b hb z => by
    obtain ⟨_, _, _, _, _, a5⟩ := f2 b hb
    exact a5 (S, lstObj acc0 c0) (List.mem_append_right _ (.head _)) z.symm
  have ee : ∀ (n : Nat) (s₀ : Shared) (x : Value) (s' : Shared), X.xe x s' → Seg (model X.prog X.w) A R (GY X S) n s₀ (.forLoop tg (.ref it) body [] X.env) (notes X.env x)
      (.ret (fun r => ((match r with | .ok f => (.pure f : Sem Flow) | .error e => .raise e).onRaise (cameBack X.env)).wrap K J gd lv) none (gd false) (lv []) c p [] :: fs) s' := fun n s₀ x s' hx => by
    refine seg_wrap ?_
    rw [(gl _).over]
    refine wpAny_bind (wpAny_mono (hp x s' hx) (fun _ s'' hcb => wpAny_theTreesLotGoes ?_) fun y s'' hcb => ?_)
    · exact seg_leaf (.error x) (seg_cameBack gc k hcb)
    · exact seg_leaf (.error y) (seg_cameBack gc k hcb)
  have loop : ∀ (m i n : Nat) (ys : List V) (s₀ s : Shared) (σ : L2.St) (H : Hp), n + ys.length = sizeLine → W i m ys σ H → GI X S ip ys σ H s → tn i s.heap → (∀ b ∈ fp, H b = none) →
      Seg (model X.prog X.w) A R (GY X S) n s₀ (.forLoop tg (.ref it) body [] X.env) ((model X.prog X.w).den (.forLoop tg (.ref it) body [] X.env))
        (.ret (fun r => ((match r with | .ok f => (.pure f : Sem Flow) | .error e => .raise e).onRaise (cameBack X.env)).wrap K J gd lv) none (gd false) (lv []) c p [] :: fs) s := by
    intro m
    induction m using Nat.strongRecOn with
    | ind m ih =>
      intro i n ys s₀ s3 σ3 H3 hn w3 hI st3 fr3
      obtain ⟨acc, cc, r3, I3⟩ := hI
      refine seg_forLoop X.xe (fun x s' hx => ee n s₀ x s' hx) ?_
      rw [(gl _).over]
      rcases turn i m ys σ3 H3 w3 with ⟨stop, qn⟩ | ⟨go, N, hN, step⟩
      · refine thn (T.done X rfl rfl rfl hcalm i _ s3 σ3 H3 X.xe I3 (stat fr3) st3 stop) fun r s4 ⟨hr, I4⟩ => ?_
        subst hr
        refine seg_again rfl ?_
        exact seg_leaf (.ok .next) (k.ok n ys s₀ s4 .next hn ⟨σ3, H3, ⟨acc, cc, r3, I4⟩, qn⟩)
      · refine thn (T.item X rfl rfl rfl hcalm i _ s3 σ3 H3 X.xe I3 (stat fr3) st3 go) fun r s4 ⟨u, hr, h4⟩ => ?_
        subst hr
        refine thn h4 fun _ s5 ⟨x, H5, I5, r5, y5, st5, fr5⟩ => ?_
        have I5' := I5.pinned (stat fr5) (T.obj _ _ st5)
        refine thn (hg.run _ s5 σ3 H5 x u _ I5' r5 (step x H5 y5)) fun _ s6 ⟨σ6, H6, I6, q6⟩ => ?_
        have gb : GC X S (ip ++ pinsAt fp s5.heap) A (.forLoop tg (.ref it) body [] X.env) (.ret (fun r => ((match r with | .ok f => (.pure f : Sem Flow) | .error e => .raise e).onRaise (cameBack X.env)).wrap K J gd lv) none (gd false) (lv []) c p [] :: fs) id :=
          ⟨gc.pn, fun q hq => (List.mem_append.mp hq).elim (gc.ip q) fun z => fpS _ (of_pinsAt z).1, gc.apart, (gl _).over, (gl _).split, (gl _).guard, rfl⟩
        have back : ∀ {ys' : List V} {σ7 : L2.St} {H7 : Hp} {s7 : Shared}, GI X S (ip ++ pinsAt fp s5.heap) ys' σ7 H7 s7 → GI X S ip ys' σ7 H7 s7 := fun ⟨a7, c7, r7, I7⟩ => ⟨a7, c7, r7, Inv.unpinned (pl := pinsAt fp s5.heap) (show Inv X (((S, lstObj a7 c7) :: ip) ++ pinsAt fp s5.heap) _ _ _ from I7)⟩
        have again : ∀ {n' : Nat} {ys' : List V} {s₀' s7 : Shared} {σ7 : L2.St} {H7 : Hp}, n' + ys'.length = sizeLine → GI X S (ip ++ pinsAt fp s5.heap) ys' σ7 H7 s7 → N ys' σ7 H7 →
            Seg (model X.prog X.w) A R (GY X S) n' s₀' (.forLoop tg (.ref it) body [] X.env) (.pure (.again (.forLoop tg (.ref it) body [] X.env)))
              (.ret (fun r => ((match r with | .ok f => (.pure f : Sem Flow) | .error e => .raise e).onRaise (cameBack X.env)).wrap K J gd lv) none (gd false) (lv []) c p [] :: fs) s7 := fun {n' ys' s₀' s7 σ7 H7} hn' g7 n7 => by
          obtain ⟨m', hm, w7⟩ := hN ys' σ7 H7 n7
          obtain ⟨a7, c7, r7, I7⟩ := id g7
          have pin7 : ∀ b ∈ fp, ∀ o, s5.heap.get? b = some o → s7.heap.get? b = some o ∧ H7 b = none := fun b hb o e => by
            have q := I7.pin (b, o) (List.mem_append_right _ (.tail _ (List.mem_append_right _ (mem_pinsAt hb e))))
            exact ⟨q.1, q.2.1⟩
          refine seg_again rfl (ih m' hm (i + 1) n' ys' s₀' s7 σ7 H7 hn' w7 (back g7) (T.keep _ _ _ st5 fun b hb o e => (pin7 b hb o e).1) fun b hb => ?_)
          obtain ⟨o, e, d⟩ := T.obj _ _ st5 b hb
          exact (pin7 b hb o e).2
        refine hb.run A S (ip ++ pinsAt fp s5.heap) R n ys s₀ _ _ _ _ id id s6 σ6 H6 { D with nx := N, ct := N, bk := D.nx } gb hn ⟨fun n' ys' s₀' s7 f hn' hs7 => ?_, fun n' s₀' x s7 hx => ee n' s₀' x s7 hx⟩ ⟨acc, cc, r3, I6⟩ q6
        cases f with
        | next =>
          obtain ⟨σ7, H7, I7, n7⟩ := hs7
          exact again hn' I7 n7
        | cont =>
          obtain ⟨σ7, H7, I7, n7⟩ := hs7
          exact again hn' I7 n7
        | brk =>
          obtain ⟨σ7, H7, I7, q7⟩ := hs7
          exact seg_leaf (.ok .next) (k.ok n' ys' s₀' s7 .next hn' ⟨σ7, H7, back I7, q7⟩)
        | ret v =>
          obtain ⟨x7, σ7, H7, I7, r7, q7⟩ := hs7
          exact seg_leaf (.ok (.ret v)) (k.ok n' ys' s₀' s7 (.ret v) hn' ⟨x7, σ7, H7, back I7, r7, q7⟩)
  exact loop m0 0 n ys s₀ s2 σ H2 hn w0 ⟨acc0, c0, r0, I2⟩ st2 fun b hb => (f2 b hb).1
end
end Kx

/-! ## Kx3 -/
set_option Elab.async false
set_option linter.all false
set_option maxRecDepth 100000
set_option maxHeartbeats 2000000
/-! {k: v for a in xs for b in ys}: a dict comprehension of two clauses, without tests. -/
namespace Kx
open PySem PySem.Spec PyProof.Rows L2
abbrev dcx2 (kx vx t0 i0 t1 i1 : Expr) (scope : Scope) (pos : Pos) : Expr := .DictComp kx vx [⟨t0, i0, [], 0⟩, ⟨t1, i1, [], 0⟩] scope pos
theorem turnD_out (kx vx t0 i0 t1 i1 : Expr) (scope : Scope) (pos : Pos) (it acc : Value) (env : Env) :
    compTurn (dcx2 kx vx t0 i0 t1 i1 scope pos) 0 it acc env = (do
      standAt i0.pos
      match ← pyNext it with
      | none => pure (.done .next)
      | some v =>
        letOwnedTupleGo t0 it v
        assign t0 env v
        let x ← eval i1 env
        standAt i1.pos
        let x ← foldedSetIterable i1 env x
        let _ ← runOwn (.compStart (dcx2 kx vx t0 i0 t1 i1 scope pos) 1 (← holding [x] (pyIter x)) acc env) env
        again (.compLoop (dcx2 kx vx t0 i0 t1 i1 scope pos) 0 it acc env)) := by rfl
section
variable {prog : Program} {w : World} {A : Around} {R : Result → Shared → Prop} {s : Shared} {kx vx t0 i0 t1 i1 : Expr} {scope : Scope} {pos : Pos} {it acc : Value} {D : Addr} {env : Env}
abbrev nby (prog : Program) (w : World) (A : Around) (env : Env) (R : Result → Shared → Prop) : Value → Shared → Prop := notedBy (model prog w) A env fun e s' => R (.error e) s'
theorem loopD_out (hs : ∀ x, foldedSetIterable i1 env x = pure x) (I : Nat → Shared → Prop)
    (turn : ∀ n s, I n s → wpAny (model prog w) A (pyNext it) (fun r s1 => match r with
      | none => R (.ok .next) s1
      | some v => wpAny (model prog w) A (letOwnedTupleGo t0 it v) (fun _ s2 => wpAny (model prog w) A (assign t0 env v) (fun _ s3 =>
          wpAny (model prog w) A (eval i1 env) (fun x s4 => wpAny (model prog w) A (pyIter x) (fun it1 s5 =>
            codeAny (model prog w) A (.compStart (dcx2 kx vx t0 i0 t1 i1 scope pos) 1 it1 acc env) (fun r s' => match r with
              | .ok _ => ∃ m, m < n ∧ I m s'
              | .error _ => False) s5) (nby prog w A env R) s4) (nby prog w A env R) s3) (nby prog w A env R) s2) (nby prog w A env R) s1) (nby prog w A env R) s)
    (n : Nat) (h : I n s) : codeAny (model prog w) A (.compLoop (dcx2 kx vx t0 i0 t1 i1 scope pos) 0 it acc env) R s := by
  refine codeAny_loop rfl I (fun n s hI => ?_) n h
  show wpAny _ A ((compTurn (dcx2 kx vx t0 i0 t1 i1 scope pos) 0 it acc env).onRaise (fun x => do noteFrame x env; theTreesLotGoes x)) _ _ s
  refine wpAny_noted ?_
  rw [turnD_out]
  refine wpAny_bind (wpAny_standAt (wpAny_bind (thn (turn n s hI) fun r s1 h1 => ?_)))
  cases r with
  | none => exact wpAny_pure h1
  | some v =>
    refine wpAny_bind (thn h1 fun _ s2 h2 => wpAny_bind (thn h2 fun _ s3 h3 => wpAny_bind (thn h3 fun x s4 h4 => ?_)))
    refine wpAny_bind (wpAny_standAt (wpAny_bind (wpAny_of_eq (hs x) (wpAny_bind (wpAny_holding (thn h4 fun it1 s5 h5 => ?_))))))
    refine wpAny_bind (wpAny_runOwn ?_)
    rw [Around.mark_none]
    refine codeAny_mono h5 fun r s' hr => ?_
    cases r with
    | ok f =>
      first
        | exact wpAny_pure ⟨rfl, hr⟩
        | exact wpAny_bind (wpAny_pure (wpAny_pure ⟨rfl, hr⟩))
    | error e => exact hr.elim
theorem loopD_in (I : Nat → Shared → Prop)
    (turn : ∀ n s, I n s → wpAny (model prog w) A (pyNext it) (fun r s1 => match r with
      | none => R (.ok .next) s1
      | some v => wpAny (model prog w) A (letOwnedTupleGo t1 it v) (fun _ s2 => wpAny (model prog w) A (assign t1 env v) (fun _ s3 =>
          wpAny (model prog w) A (eval kx env) (fun kv s4 => wpAny (model prog w) A (eval vx env) (fun vv s5 =>
            wpAny (model prog w) A (dictSet D kv vv) (fun _ s6 => ∃ m, m < n ∧ I m s6) (nby prog w A env R) s5) (nby prog w A env R) s4) (nby prog w A env R) s3) (nby prog w A env R) s2) (nby prog w A env R) s1) (nby prog w A env R) s)
    (n : Nat) (h : I n s) : codeAny (model prog w) A (.compLoop (dcx2 kx vx t0 i0 t1 i1 scope pos) 1 it (.ref D) env) R s := by
  refine codeAny_loop rfl I (fun n s hI => ?_) n h
  show wpAny _ A ((do
      standAt i1.pos
      match ← pyNext it with
      | none => pure (.done .next)
      | some v =>
        letOwnedTupleGo t1 it v
        assign t1 env v
        (do
          let kv ← eval kx env
          let vv ← holding [kv] (eval vx env)
          standAt { kx.pos with endLine := vx.pos.endLine, endCol := vx.pos.endCol }
          holding [kv, vv] (dictSet D kv vv))
        again (.compLoop (dcx2 kx vx t0 i0 t1 i1 scope pos) 1 it (.ref D) env) : Sem PySem.Fin).onRaise (fun x => do noteFrame x env; theTreesLotGoes x)) _ _ s
  refine wpAny_noted ?_
  refine wpAny_bind (wpAny_standAt (wpAny_bind (thn (turn n s hI) fun r s1 h1 => ?_)))
  cases r with
  | none => exact wpAny_pure h1
  | some v =>
    refine wpAny_bind (thn h1 fun _ s2 h2 => wpAny_bind (thn h2 fun _ s3 h3 => wpAny_bind ?_))
    exact wpAny_bind (thn h3 fun kv s4 h4 => wpAny_bind (wpAny_holding (thn h4 fun vv s5 h5 => wpAny_bind (wpAny_standAt (wpAny_holding (thn h5 fun _ s6 h6 => wpAny_pure ⟨rfl, h6⟩))))))
theorem startD1 (h0 : codeAny (model prog w) A (.compLoop (dcx2 kx vx t0 i0 t1 i1 scope pos) 1 it acc env) R s)
    (h : wpAny (model prog w) A (pyIter it) (fun it' s' => codeAny (model prog w) A (.compLoop (dcx2 kx vx t0 i0 t1 i1 scope pos) 1 it' acc env) R s') (nby prog w A env R) s) :
    codeAny (model prog w) A (.compStart (dcx2 kx vx t0 i0 t1 i1 scope pos) 1 it acc env) R s := by
  refine codeAny_of_tree ?_
  show wpAny _ _ ((compStart (dcx2 kx vx t0 i0 t1 i1 scope pos) 1 it acc env).onRaise (fun x => do noteFrame x env; standAt theWindowsPlace)) _ _ s
  refine wpAny_notedAt ?_
  unfold compStart
  show wpAny _ _ (ask >>= _) _ _ s
  refine wpAny_bind (wpAny_askSetting (wpAny_ite ?_))
  split
  · first
      | exact wpAny_bind (wpAny_pure (wpAny_pure (And.intro rfl h0)))
      | exact wpAny_pure (And.intro rfl h0)
  · refine wpAny_bind (wpAny_rule ?_)
    first
      | exact wpAny_bind (wpAny_standAt (wpAny_bind (thn h fun it' s' h' => wpAny_pure (And.intro rfl h'))))
      | (show wpAny _ _ (standAt i1.pos >>= _) _ _ s; exact wpAny_bind (wpAny_standAt (wpAny_bind (thn h fun it' s' h' => wpAny_pure (And.intro rfl h')))))
end
section
variable {X : Cx}
/-- vs: the block's names; vs1: those of the second target -/
def tDc2 (wi : TI) (g : TG) (wi1 : TI) (g1 : TG) (tk tv : TE) (vs vs1 : List Nat) : TE := fun σ H Q => wi σ H fun J H1 => ∀ D, H1 D = none → ∃ W : Nat → Nat → Hp → Prop, (∃ m, W 0 m (upd H1 D (.dK []))) ∧ ∀ i m H, W i m H →
  (J.stop i H ∧ Q (.ref D) H) ∨ (J.go i H ∧ ∃ Nx : Hp → Prop, (∀ H', Nx H' → ∃ m', m' < m ∧ W (i + 1) m' H') ∧ ∀ x H', J.yld i H x H' → g x (wipe σ vs) H' fun σ2 H2 => wipe σ2 vs = wipe σ vs ∧
    wi1 σ2 H2 fun J1 H4 => ∃ W1 : Nat → Nat → Hp → Prop, (∃ m, W1 0 m H4) ∧ ∀ j k H, W1 j k H →
      (J1.stop j H ∧ Nx H) ∨ (J1.go j H ∧ ∃ Nx1 : Hp → Prop, (∀ H', Nx1 H' → ∃ k', k' < k ∧ W1 (j + 1) k' H') ∧ ∀ x H', J1.yld j H x H' → g1 x (wipe σ2 vs1) H' fun σ3 H5 => wipe σ3 vs1 = wipe σ2 vs1 ∧
        tk σ3 H5 fun y H6 => tv σ3 H6 fun z H7 => ∃ kvs k, y = kV k ∧ H7 D = some (.dK kvs) ∧ kvs.length < sizeLine ∧ Nx1 (upd H7 D (.dK (putK kvs k z)))))
theorem dc2_core {pins : List (Addr × Obj)} {s : Shared} {σ : L2.St} {H : Hp} {Q : VK} {pos' : Pos} {use : Option (Value → Sem Unit)} {Qf : Value → Shared → Prop} {kx vx tg iter tg1 iter1 : Expr} {scope : Scope} {own : List (Str × Nat)} {vs1 : List Nat} {pos : Pos} {wi wi1 : TI} {g g1 : TG} {tk tv : TE} (hc : X.calm = true) (hN : X.N.Nodup) (I : Inv X pins σ H s) (hi : PI X tg iter wi) (ok : BlkOk X.N X.env.scope scope own) (hv : ∀ i ∈ vs1, i ∈ own.map (·.2))
    (hg : ∀ (s : Shared) (H : Hp) (C : Addr) (cl : List (Str × Addr)) (fp : List Addr), PG (X.blk s H scope (compEnvC scope cl C X.env) fp) tg g)
    (hi1 : ∀ (s : Shared) (H : Hp) (C : Addr) (cl : List (Str × Addr)) (fp : List Addr), PI (X.blk s H scope (compEnvC scope cl C X.env) fp) tg1 iter1 wi1)
    (hg1 : ∀ (s : Shared) (H : Hp) (C : Addr) (cl : List (Str × Addr)) (fp : List Addr), PG (X.blk s H scope (compEnvC scope cl C X.env) fp) tg1 g1)
    (hk : ∀ (s : Shared) (H : Hp) (C : Addr) (cl : List (Str × Addr)) (fp : List Addr), PE (X.blk s H scope (compEnvC scope cl C X.env) fp) kx tk)
    (he : ∀ (s : Shared) (H : Hp) (C : Addr) (cl : List (Str × Addr)) (fp : List Addr), PE (X.blk s H scope (compEnvC scope cl C X.env) fp) vx tv)
    (hs : ∀ x, foldedSetIterable iter X.env x = pure x) (hs1 : ∀ env x, foldedSetIterable iter1 env x = pure x)
    (h : tDc2 wi g wi1 g1 tk tv (own.map (·.2)) vs1 σ H Q)
    (hRR : ∀ D C s' m H', Inv X pins σ H' s' → Q (.ref D) H' → s'.heap.Ns C m → FpOk X pins H' C → compPost (model X.prog X.w) X.A X.xe use Qf (.ref D) C (.ok .next) s') :
    wpAny (model X.prog X.w) X.A (comprehension (dcx2 kx vx tg iter tg1 iter1 scope pos) scope X.env pos' newDict false (eval iter X.env) use) Qf X.xe s := by
  have hfree : ∀ y ∈ scope.names, y.2 = .free → ∃ c, X.env.cells.lookup y.1 = some c := fun y hy e => (ok.free y hy e).elim (fun k => I.ok.has _ (.inl k)) fun k => I.ok.has _ (.inr k)
  refine wpAny_comprehension_free (use := use) rfl hs (closure_ok hfree) ok.kind (fun y hy e => by rw [ok.uniq y hy, e]) (thn (hi.run pins s σ H _ I h) fun xv s1 hx => thn hx fun itv s2 h2 => ?_)
  obtain ⟨it, fp, tn, J, H2, rfl, I2, T, st2, f2, q⟩ := h2
  refine wpAny_newObj_type (newEnv_comp ?_)
  obtain ⟨W, ⟨m0, w0⟩, turn⟩ := q s2.heap.objs.size (I2.hok.fresh (Nat.le_refl _))
  generalize hD : s2.heap.objs.size = D at *
  -- the new dict
  generalize hs3 : ({ s2 with heap := s2.heap.push { cls := .type "dict", data := .dict #[] } } : Shared) = s3
  have h3 : s3.heap = s2.heap.push { cls := .type "dict", data := .dict #[] } := by rw [← hs3]
  have I3 : Inv X pins σ (upd H2 D (.dK [])) s3 := by
    rw [← hs3]
    refine I2.laid (t' := s2.toks) (fun b o e => Heap.get?_push_of_some _ e) (Nat.le_of_eq hD) ?_
    rw [← hD]
    exact dk_empty s2.heap I2.big
  have f3 : ∀ b ∈ fp, FpOk X pins (upd H2 D (.dK [])) b ∧ b < s3.heap.objs.size := fun b hb => by
    obtain ⟨o, e, _⟩ := T.obj _ _ st2 b hb
    have hlt := Heap.lt_size e
    refine ⟨⟨?_, (f2 b hb).2⟩, by rw [h3, Heap.size_push]; exact Nat.lt_succ_of_lt hlt⟩
    rw [upd_ne (by rw [← hD]; exact Nat.ne_of_lt hlt)]
    exact (f2 b hb).1
  have st3 : tn 0 s3.heap := T.keep _ _ _ st2 fun b _ o e => by rw [h3]; exact Heap.get?_push_of_some _ e
  have I4 := block_start I3 ok hN f3
  have pg := hg s3 (upd H2 D (.dK [])) s3.heap.objs.size (cellsFrom (s3.heap.objs.size + 1) scope.names (cloFrom X.env.cells scope.names [])) fp
  have pi1 := hi1 s3 (upd H2 D (.dK [])) s3.heap.objs.size (cellsFrom (s3.heap.objs.size + 1) scope.names (cloFrom X.env.cells scope.names [])) fp
  have pg1 := hg1 s3 (upd H2 D (.dK [])) s3.heap.objs.size (cellsFrom (s3.heap.objs.size + 1) scope.names (cloFrom X.env.cells scope.names [])) fp
  have pk := hk s3 (upd H2 D (.dK [])) s3.heap.objs.size (cellsFrom (s3.heap.objs.size + 1) scope.names (cloFrom X.env.cells scope.names [])) fp
  have pe := he s3 (upd H2 D (.dK [])) s3.heap.objs.size (cellsFrom (s3.heap.objs.size + 1) scope.names (cloFrom X.env.cells scope.names [])) fp
  have hfin : ∀ (s' : Shared) (m : Str → Option Value) (H' : Hp), Inv X pins σ H' s' → Q (.ref D) H' → s'.heap.Ns s3.heap.objs.size m → FpOk X pins H' s3.heap.objs.size → compPost (model X.prog X.w) X.A X.xe use Qf (.ref D) s3.heap.objs.size (.ok .next) s' := fun s' m H' I' q hn f => hRR D _ s' m H' I' q hn f
  show codeAny _ _ (.compStart (dcx2 kx vx tg iter tg1 iter1 scope pos) 0 (.ref it) (.ref D) (compEnvC scope (cellsFrom (s3.heap.objs.size + 1) scope.names (cloFrom X.env.cells scope.names [])) s3.heap.objs.size X.env)) (compPost (model X.prog X.w) X.A X.xe use Qf (.ref D) s3.heap.objs.size) { s3 with heap := pushCells (s3.heap.push { cls := .type "dict", data := .dict #[] }) scope.names }
  have nfp : ∀ b ∈ fp, (upd H2 D (.dK [])) b = none := fun b hb => (f3 b hb).1.1
  generalize hce : compEnvC scope (cellsFrom (s3.heap.objs.size + 1) scope.names (cloFrom X.env.cells scope.names [])) s3.heap.objs.size X.env = ce at I4 pg pk pe pi1 pg1 ⊢
  have cL : ce.locals = s3.heap.objs.size := by subst hce; rfl
  generalize hH3 : upd H2 D (.dK []) = H3 at I3 I4 pg pk pe pi1 pg1 w0 nfp f3
  generalize hs4 : ({ s3 with heap := pushCells (s3.heap.push { cls := .type "dict", data := .dict #[] }) scope.names } : Shared) = s4 at I4 ⊢
  have st4 : tn 0 s4.heap := T.keep _ _ _ st3 fun b _ o e => by rw [← hs4]; exact pushCells_keeps _ _ _ _ (Heap.get?_push_of_some _ e)
  have stat : ∀ {σ' : L2.St} {H' : Hp} {s' : Shared}, Inv (X.blk s3 H3 scope ce fp) [] σ' H' s' → (∀ b ∈ fp, H' b = none) → ∀ b ∈ fp, FpOk (X.blk s3 H3 scope ce fp) [] H' b := fun {σ' H' s'} I' hn b hb =>
    ⟨hn b hb, (I'.ok.exf b hb).1, I'.ok.exfs b hb, .inl hb, fun x c e => (I'.ok.exf b hb).2 x c e, fun p hp => absurd (show p ∈ ([] : List (Addr × Obj)) ++ [] from hp) (by simp)⟩
  have keepPins : ∀ {tn' : Nat → Heap → Prop} {J' : It} {it' : Addr} {tgt : Expr} {fq : List Addr} {pp : List (Addr × Obj)} {σ' : L2.St} {H' : Hp} {s0 s' : Shared} {i : Nat}, Turn X.prog X.w X.K tgt J' fq it' tn' → tn' i s0.heap → Inv (X.blk s3 H3 scope ce fp) (pp ++ pinsAt fq s0.heap) σ' H' s' → tn' i s'.heap ∧ ∀ b ∈ fq, H' b = none :=
    fun {tn' J' it' tgt fq pp σ' H' s0 s' i} T' st' I' => by
      have pin' : ∀ b ∈ fq, ∀ o, s0.heap.get? b = some o → s'.heap.get? b = some o ∧ H' b = none := fun b hb o e =>
        let z := I'.pin (b, o) (List.mem_append_right _ (List.mem_append_right _ (mem_pinsAt hb e)))
        ⟨z.1, z.2.1⟩
      refine ⟨T'.keep _ _ _ st' fun b hb o e => (pin' b hb o e).1, fun b hb => ?_⟩
      obtain ⟨o, e, _⟩ := T'.obj _ _ st' b hb
      exact (pin' b hb o e).2
  have loop : codeAny (model X.prog X.w) X.A (.compLoop (dcx2 kx vx tg iter tg1 iter1 scope pos) 0 (.ref it) (.ref D) ce) (compPost (model X.prog X.w) X.A X.xe use Qf (.ref D) s3.heap.objs.size) s4 := by
    refine loopD_out (hs1 ce) (fun n s' => ∃ i H', Inv (X.blk s3 H3 scope ce fp) [] (wipe σ (own.map (·.2))) H' s' ∧ tn i s'.heap ∧ (∀ b ∈ fp, H' b = none) ∧ W i n H') ?_ m0 ⟨0, H3, I4, st4, nfp, w0⟩
    rintro n s5 ⟨i, H5, I5, st5, n5, w5⟩
    rcases turn i n H5 w5 with ⟨stop, qq⟩ | ⟨go, Nx, hNx, step⟩
    · refine thnF (T.done (X.blk s3 H3 scope ce fp) rfl rfl rfl hc i [] s5 _ H5 (fun _ _ => False) I5 (stat I5 n5) st5 stop) fun r s6 ⟨hr, I6⟩ => ?_
      subst hr
      have I7 : Inv X pins σ H5 s6 := I3.call' (ch := fp) I6.os I6.base I6.hok I6.bare fun b hb => ⟨(f3 b hb).1.2.2.2.1, (f3 b hb).1.2.1, (f3 b hb).1.2.2.2.2.1, (f3 b hb).1.2.2.2.2.2⟩
      have nC : H5 s3.heap.objs.size = none := by
        have z : H5 ce.locals = none := I6.free
        rw [cL] at z
        exact z
      obtain ⟨m, hn, _⟩ := I6.loc
      have hn : s6.heap.Ns ce.locals m := hn
      rw [cL] at hn
      exact hfin s6 m H5 I7 qq hn (I3.fpOk (Nat.le_refl _) nC)
    · refine thnF (T.item (X.blk s3 H3 scope ce fp) rfl rfl rfl hc i [] s5 _ H5 (fun _ _ => False) I5 (stat I5 n5) st5 go) fun r s6 ⟨u, hr, h6⟩ => ?_
      subst hr
      refine thnF h6 fun _ s7 ⟨x, H7, I7, r7, y7, st7, n7⟩ => ?_
      have I7' := I7.pinned (stat I7 n7) (T.obj _ _ st7)
      refine thnF (pg.run _ s7 _ H7 x u _ I7' r7 (step x H7 y7)) fun _ s8 ⟨σ8, H8, I8, hw8, q8⟩ => ?_
      refine thnF (pi1.run _ s8 σ8 H8 _ I8 q8) fun xv s10 hx => thnF hx fun itv s11 h11 => ?_
      obtain ⟨it1, fp1, tn1, J1, H11, rfl, I11, T1, st11, f11, W1, ⟨m1, w1⟩, turn1⟩ := h11
      have hl9 : (wipe σ (own.map (·.2))).length = (wipe σ8 vs1).length := by rw [← hw8, wipe_length, wipe_length]
      have hk9 : ∀ (j : Nat) v, (wipe σ (own.map (·.2)))[j]? = some (some v) → (wipe σ8 vs1)[j]? = some (some v) := fun j v e => by
        rw [← hw8] at e
        obtain ⟨e1, e2⟩ := wipe_some e
        rw [wipe_out fun z => e2 (hv j z)]
        exact e1
      have stat1 : ∀ {H' : Hp}, (∀ b ∈ fp1, H' b = none) → ∀ b ∈ fp1, FpOk (X.blk s3 H3 scope ce fp) ([] ++ pinsAt fp s7.heap) H' b := fun hn b hb => ⟨hn b hb, (f11 b hb).2⟩
      have loop1 : codeAny (model X.prog X.w) X.A (.compLoop (dcx2 kx vx tg iter tg1 iter1 scope pos) 1 (.ref it1) (.ref D) ce)
          (fun r s' => match r with
            | .ok _ => ∃ m, m < n ∧ ∃ i H', Inv (X.blk s3 H3 scope ce fp) [] (wipe σ (own.map (·.2))) H' s' ∧ tn i s'.heap ∧ (∀ b ∈ fp, H' b = none) ∧ W i m H'
            | .error _ => False) s11 := by
        refine loopD_in (fun k s' => ∃ j H', Inv (X.blk s3 H3 scope ce fp) ([] ++ pinsAt fp s7.heap) (wipe σ8 vs1) H' s' ∧ tn1 j s'.heap ∧ (∀ b ∈ fp1, H' b = none) ∧ W1 j k H') ?_ m1 ⟨0, H11, I11.weak (wipe_length _ _) (fun j v e => (wipe_some e).1), st11, fun b hb => (f11 b hb).1, w1⟩
        rintro k s12 ⟨j, H12, I12, st12, n12, w12⟩
        rcases turn1 j k H12 w12 with ⟨stop1, nx1⟩ | ⟨go1, Nx1, hNx1, step1⟩
        · refine thnF (T1.done (X.blk s3 H3 scope ce fp) rfl rfl rfl hc j _ s12 (wipe σ8 vs1) H12 (fun _ _ => False) I12 (stat1 n12) st12 stop1) fun r s13 ⟨hr, I13⟩ => ?_
          subst hr
          obtain ⟨m', hm, w'⟩ := hNx H12 nx1
          obtain ⟨k1, k2⟩ := keepPins T st7 I13
          exact ⟨m', hm, i + 1, H12, (I13.unpinned (pins := [])).weak hl9 hk9, k1, k2, w'⟩
        · refine thnF (T1.item (X.blk s3 H3 scope ce fp) rfl rfl rfl hc j _ s12 (wipe σ8 vs1) H12 (fun _ _ => False) I12 (stat1 n12) st12 go1) fun r s13 ⟨u1, hr, h13⟩ => ?_
          subst hr
          refine thnF h13 fun _ s14 ⟨x1, H14, I14, r14, y14, st14, n14⟩ => ?_
          have I14' := I14.pinned (stat1 n14) (T1.obj _ _ st14)
          refine thnF (pg1.run _ s14 (wipe σ8 vs1) H14 x1 u1 _ I14' r14 (step1 x1 H14 y14)) fun _ s15 ⟨σ15, H15, I15, hw15, q15⟩ => ?_
          refine thnF (pk.run _ s15 σ15 H15 _ I15 q15) fun z s16 ⟨yk, H16, I16, r16, q16⟩ => ?_
          refine thnF (pe.run _ s16 σ15 H16 _ I16 q16) fun z2 s17 ⟨yv, H17, I17, r17, kvs, kk, ek, hD17, hz17, nx⟩ => ?_
          subst ek
          refine d_dictSet (X := X.blk s3 H3 scope ce fp) I17 hD17 hz17 r16 r17 fun s18 I18 => ?_
          obtain ⟨m', hm, w'⟩ := hNx1 _ nx
          obtain ⟨k1, k2⟩ := keepPins T1 st14 I18
          exact ⟨m', hm, j + 1, _, I18.unpinned.weak (by rw [← hw15, wipe_length]) (fun j v e => by rw [← hw15] at e; exact (wipe_some e).1), k1, k2, w'⟩
      exact startD1 loop1 (T1.self X.A 0 _ _ _ st11 loop1)
  exact codeAny_compStart_dict loop (T.self X.A 0 _ _ _ st4 loop)
theorem pe_dc2 {kx vx tg iter tg1 iter1 : Expr} {scope : Scope} {own : List (Str × Nat)} {vs1 : List Nat} {pos : Pos} {wi wi1 : TI} {g g1 : TG} {tk tv : TE} (hc : X.calm = true) (hN : X.N.Nodup) (hi : PI X tg iter wi) (ok : BlkOk X.N X.env.scope scope own) (hv : ∀ i ∈ vs1, i ∈ own.map (·.2))
    (hg : ∀ (s : Shared) (H : Hp) (C : Addr) (cl : List (Str × Addr)) (fp : List Addr), PG (X.blk s H scope (compEnvC scope cl C X.env) fp) tg g)
    (hi1 : ∀ (s : Shared) (H : Hp) (C : Addr) (cl : List (Str × Addr)) (fp : List Addr), PI (X.blk s H scope (compEnvC scope cl C X.env) fp) tg1 iter1 wi1)
    (hg1 : ∀ (s : Shared) (H : Hp) (C : Addr) (cl : List (Str × Addr)) (fp : List Addr), PG (X.blk s H scope (compEnvC scope cl C X.env) fp) tg1 g1)
    (hk : ∀ (s : Shared) (H : Hp) (C : Addr) (cl : List (Str × Addr)) (fp : List Addr), PE (X.blk s H scope (compEnvC scope cl C X.env) fp) kx tk)
    (he : ∀ (s : Shared) (H : Hp) (C : Addr) (cl : List (Str × Addr)) (fp : List Addr), PE (X.blk s H scope (compEnvC scope cl C X.env) fp) vx tv)
    (hs : ∀ x, foldedSetIterable iter X.env x = pure x := by intro _; rfl) (hs1 : ∀ env x, foldedSetIterable iter1 env x = pure x := by intro _ _; rfl) :
    PE X (dcx2 kx vx tg iter tg1 iter1 scope pos) (tDc2 wi g wi1 g1 tk tv (own.map (·.2)) vs1) := by
  refine ⟨fun pins s σ H Q I h => ?_⟩
  rw [arm_eval_DictComp]
  refine dc2_core hc hN I hi ok hv hg hi1 hg1 hk he hs hs1 h fun D C s' m H' I' q hn f => ⟨m, hn, fun h'' sb => ?_⟩
  obtain ⟨f0, f1, f2, f3, f4, f5⟩ := f
  exact ⟨.ref D, H', I'.turned (t' := s'.toks) (fun b o hb e => (sb.2 b hb).trans e) f0 f1 f3 f4 f5, rfl, q⟩
theorem ps_setDc2 {i : Nat} {y : Str} {py spos : Pos} {kx vx tg iter tg1 iter1 : Expr} {scope : Scope} {own : List (Str × Nat)} {vs1 : List Nat} {pos : Pos} {wi wi1 : TI} {g g1 : TG} {tk tv : TE} (hc : X.calm = true) (hN : X.N.Nodup) (hy : X.N[i]? = some y) (hyl : X.env.scope.names.lookup y = some .local) (hsw : swapsWith (dcx2 kx vx tg iter tg1 iter1 scope pos) (some (.Name y py)) spos.line X.env = pure true) (hi : PI X tg iter wi) (ok : BlkOk X.N X.env.scope scope own) (hv : ∀ i ∈ vs1, i ∈ own.map (·.2))
    (hg : ∀ (s : Shared) (H : Hp) (C : Addr) (cl : List (Str × Addr)) (fp : List Addr), PG (X.blk s H scope (compEnvC scope cl C X.env) fp) tg g)
    (hi1 : ∀ (s : Shared) (H : Hp) (C : Addr) (cl : List (Str × Addr)) (fp : List Addr), PI (X.blk s H scope (compEnvC scope cl C X.env) fp) tg1 iter1 wi1)
    (hg1 : ∀ (s : Shared) (H : Hp) (C : Addr) (cl : List (Str × Addr)) (fp : List Addr), PG (X.blk s H scope (compEnvC scope cl C X.env) fp) tg1 g1)
    (hk : ∀ (s : Shared) (H : Hp) (C : Addr) (cl : List (Str × Addr)) (fp : List Addr), PE (X.blk s H scope (compEnvC scope cl C X.env) fp) kx tk)
    (he : ∀ (s : Shared) (H : Hp) (C : Addr) (cl : List (Str × Addr)) (fp : List Addr), PE (X.blk s H scope (compEnvC scope cl C X.env) fp) vx tv)
    (hs : ∀ x, foldedSetIterable iter X.env x = pure x := by intro _; rfl) (hs1 : ∀ env x, foldedSetIterable iter1 env x = pure x := by intro _ _; rfl) :
    PS X (.Assign [.Name y py] (dcx2 kx vx tg iter tg1 iter1 scope pos) spos) (tAsg (tDc2 wi g wi1 g1 tk tv (own.map (·.2)) vs1) (gName i)) := by
  refine ⟨fun pins s σ H D I h => ?_⟩
  rw [exec_Assign_Name_used _ _ _ _ hsw]
  refine wpAny_bind (wpAny_standAt (wpAny_bind ?_))
  show wpAny _ X.A (do let _ ← comprehension (dcx2 kx vx tg iter tg1 iter1 scope pos) scope X.env (firstIterPos [⟨tg, iter, [], 0⟩, ⟨tg1, iter1, [], 0⟩] pos) newDict false (eval iter X.env) (some (assign (.Name y py) X.env))) _ _ s
  have h : tDc2 wi g wi1 g1 tk tv (own.map (·.2)) vs1 σ H (fun x H1 => gName i x σ H1 D.nx) := h
  refine wpAny_bind (thn (dc2_core (Qf := fun _ s' => SP X pins D .next s') hc hN I hi ok hv hg hi1 hg1 hk he hs hs1 h fun L C s' m H' I' q hn f => ?_) fun _ s' hq => wpAny_pure (wpAny_pure hq))
  show wpAny _ _ (assign (.Name y py) X.env (.ref L)) _ _ _
  refine wpAny_assign_Name (store_ok2 (v := V.ref L) I' hN hy (.inl hyl) rfl (fun s2 I2 ⟨a, sb, ha⟩ => ?_) (.inr hyl))
  obtain ⟨f0, f1, f2, f3, f4, f5⟩ := f
  have haC : C ≠ a := by
    rcases ha with z | z
    · rw [z]; exact f1
    · exact fun e => f4 y a z e.symm
  refine ⟨m, hn.sameBut sb haC, fun h3 sb3 => ?_⟩
  exact ⟨_, H', I2.turned (t' := s2.toks) (fun b o hb e => (sb3.2 b hb).trans e) f0 f1 f3 f4 f5, q⟩
end
end Kx

/-! ## LmDefs -/
set_option Elab.async false
set_option linter.all false
set_option maxRecDepth 100000
set_option maxHeartbeats 0
/-! The program's defs by their places; the facts of the head; the run of the top. Printed by gen_head.py. -/
namespace Lh
open PySem PySem.Spec PyProof.Rows L2
def top (i : Nat) : Stmt := PySem.Challenge.pw_lateids_k67_whole_losses_of_plain_reader.main.body.getD i (.Pass ⟨0, 0, 0, 0⟩)
abbrev s_is_integer : Stmt := top 17
abbrev s_is_id : Stmt := top 18
abbrev s_is_order : Stmt := top 19
abbrev s_require_order : Stmt := top 20
abbrev s_require_moment : Stmt := top 21
abbrev s_require_polls : Stmt := top 22
abbrev s_require_id_of : Stmt := top 23
abbrev s_is_name : Stmt := top 24
abbrev s_require_name : Stmt := top 25
abbrev s_tops_in : Stmt := top 27
abbrev s_danger_in : Stmt := top 28
abbrev s_missed_at : Stmt := top 29
abbrev s_missed_counts : Stmt := top 30
abbrev s_danger_of : Stmt := top 31
abbrev s_Reader_init : Stmt := inClass (top 43) 0
abbrev s_Reader_got : Stmt := inClass (top 43) 1
abbrev s_Reader_doubled : Stmt := inClass (top 43) 2
abbrev s_State_init : Stmt := inClass (top 44) 0
abbrev s_State_doubled : Stmt := inClass (top 44) 1
abbrev s_State_put : Stmt := inClass (top 44) 2
abbrev s_LiveTable_init : Stmt := inClass (top 46) 0
abbrev s_LiveTable_require_open : Stmt := inClass (top 46) 7
abbrev s_LiveTable_call : Stmt := inClass (top 46) 8
abbrev s_LiveTable_begin : Stmt := inClass (top 46) 9
abbrev s_LiveTable_commit : Stmt := inClass (top 46) 10
abbrev s_LiveTable_poll : Stmt := inClass (top 46) 12
abbrev s_LiveTable_lost_of : Stmt := inClass (top 46) 15
abbrev s_require_kind : Stmt := top 51
abbrev s_require_reader : Stmt := top 52
abbrev s_was_passed : Stmt := top 53
abbrev s_lists_of : Stmt := top 54
abbrev s_states_in : Stmt := top 55
abbrev s_read : Stmt := top 56
abbrev s_states : Stmt := top 57
abbrev s_lost_ids : Stmt := top 58
abbrev s_walk_polls : Stmt := top 59
abbrev s_law_source : Stmt := top 61
abbrev s_law_draw : Stmt := top 62
abbrev s_law_order : Stmt := top 63
abbrev s_law_polls : Stmt := top 64
abbrev s_law_union : Stmt := top 65
abbrev s_law_in_danger : Stmt := top 66
abbrev s_law_right : Stmt := top 67
abbrev s_law_live_right : Stmt := top 68
abbrev s_law : Stmt := top 69
def d_is_integer : He.DefD := ⟨("is_integer", none), "is_integer", "is_integer", defArgs s_is_integer, defBody s_is_integer, defScope s_is_integer, [.non], []⟩
def d_is_id : He.DefD := ⟨("is_id", none), "is_id", "is_id", defArgs s_is_id, defBody s_is_id, defScope s_is_id, [], []⟩
def d_is_order : He.DefD := ⟨("is_order", none), "is_order", "is_order", defArgs s_is_order, defBody s_is_order, defScope s_is_order, [], []⟩
def d_require_order : He.DefD := ⟨("require_order", none), "require_order", "require_order", defArgs s_require_order, defBody s_require_order, defScope s_require_order, [], []⟩
def d_require_moment : He.DefD := ⟨("require_moment", none), "require_moment", "require_moment", defArgs s_require_moment, defBody s_require_moment, defScope s_require_moment, [], []⟩
def d_require_polls : He.DefD := ⟨("require_polls", none), "require_polls", "require_polls", defArgs s_require_polls, defBody s_require_polls, defScope s_require_polls, [], []⟩
def d_require_id_of : He.DefD := ⟨("require_id_of", none), "require_id_of", "require_id_of", defArgs s_require_id_of, defBody s_require_id_of, defScope s_require_id_of, [], []⟩
def d_is_name : He.DefD := ⟨("is_name", none), "is_name", "is_name", defArgs s_is_name, defBody s_is_name, defScope s_is_name, [], []⟩
def d_require_name : He.DefD := ⟨("require_name", none), "require_name", "require_name", defArgs s_require_name, defBody s_require_name, defScope s_require_name, [], []⟩
def d_tops_in : He.DefD := ⟨("tops_in", none), "tops_in", "tops_in", defArgs s_tops_in, defBody s_tops_in, defScope s_tops_in, [], []⟩
def d_danger_in : He.DefD := ⟨("danger_in", none), "danger_in", "danger_in", defArgs s_danger_in, defBody s_danger_in, defScope s_danger_in, [], []⟩
def d_missed_at : He.DefD := ⟨("missed_at", none), "missed_at", "missed_at", defArgs s_missed_at, defBody s_missed_at, defScope s_missed_at, [], []⟩
def d_missed_counts : He.DefD := ⟨("missed_counts", none), "missed_counts", "missed_counts", defArgs s_missed_counts, defBody s_missed_counts, defScope s_missed_counts, [], []⟩
def d_danger_of : He.DefD := ⟨("danger_of", none), "danger_of", "danger_of", defArgs s_danger_of, defBody s_danger_of, defScope s_danger_of, [], []⟩
def d_Reader_init : He.DefD := ⟨("Reader", some "__init__"), "__init__", "Reader.__init__", defArgs s_Reader_init, defBody s_Reader_init, defScope s_Reader_init, [], []⟩
def d_Reader_got : He.DefD := ⟨("Reader", some "got"), "got", "Reader.got", defArgs s_Reader_got, defBody s_Reader_got, defScope s_Reader_got, [], []⟩
def d_Reader_doubled : He.DefD := ⟨("Reader", some "doubled"), "doubled", "Reader.doubled", defArgs s_Reader_doubled, defBody s_Reader_doubled, defScope s_Reader_doubled, [], []⟩
def d_State_init : He.DefD := ⟨("State", some "__init__"), "__init__", "State.__init__", defArgs s_State_init, defBody s_State_init, defScope s_State_init, [], []⟩
def d_State_doubled : He.DefD := ⟨("State", some "doubled"), "doubled", "State.doubled", defArgs s_State_doubled, defBody s_State_doubled, defScope s_State_doubled, [], []⟩
def d_State_put : He.DefD := ⟨("State", some "put"), "put", "State.put", defArgs s_State_put, defBody s_State_put, defScope s_State_put, [], []⟩
def d_LiveTable_init : He.DefD := ⟨("LiveTable", some "__init__"), "__init__", "LiveTable.__init__", defArgs s_LiveTable_init, defBody s_LiveTable_init, defScope s_LiveTable_init, [], []⟩
def d_LiveTable_require_open : He.DefD := ⟨("LiveTable", some "require_open"), "require_open", "LiveTable.require_open", defArgs s_LiveTable_require_open, defBody s_LiveTable_require_open, defScope s_LiveTable_require_open, [], []⟩
def d_LiveTable_call : He.DefD := ⟨("LiveTable", some "call"), "call", "LiveTable.call", defArgs s_LiveTable_call, defBody s_LiveTable_call, defScope s_LiveTable_call, [], []⟩
def d_LiveTable_begin : He.DefD := ⟨("LiveTable", some "begin"), "begin", "LiveTable.begin", defArgs s_LiveTable_begin, defBody s_LiveTable_begin, defScope s_LiveTable_begin, [], []⟩
def d_LiveTable_commit : He.DefD := ⟨("LiveTable", some "commit"), "commit", "LiveTable.commit", defArgs s_LiveTable_commit, defBody s_LiveTable_commit, defScope s_LiveTable_commit, [], []⟩
def d_LiveTable_poll : He.DefD := ⟨("LiveTable", some "poll"), "poll", "LiveTable.poll", defArgs s_LiveTable_poll, defBody s_LiveTable_poll, defScope s_LiveTable_poll, [], []⟩
def d_LiveTable_lost_of : He.DefD := ⟨("LiveTable", some "lost_of"), "lost_of", "LiveTable.lost_of", defArgs s_LiveTable_lost_of, defBody s_LiveTable_lost_of, defScope s_LiveTable_lost_of, [], []⟩
def d_require_kind : He.DefD := ⟨("require_kind", none), "require_kind", "require_kind", defArgs s_require_kind, defBody s_require_kind, defScope s_require_kind, [], []⟩
def d_require_reader : He.DefD := ⟨("require_reader", none), "require_reader", "require_reader", defArgs s_require_reader, defBody s_require_reader, defScope s_require_reader, [], []⟩
def d_was_passed : He.DefD := ⟨("was_passed", none), "was_passed", "was_passed", defArgs s_was_passed, defBody s_was_passed, defScope s_was_passed, [], []⟩
def d_lists_of : He.DefD := ⟨("lists_of", none), "lists_of", "lists_of", defArgs s_lists_of, defBody s_lists_of, defScope s_lists_of, [], []⟩
def d_states_in : He.DefD := ⟨("states_in", none), "states_in", "states_in", defArgs s_states_in, defBody s_states_in, defScope s_states_in, [], []⟩
def d_read : He.DefD := ⟨("read", none), "read", "read", defArgs s_read, defBody s_read, defScope s_read, [], [("overlap", .int 1), ("wait", .int 0), ("page", .non)]⟩
def d_states : He.DefD := ⟨("states", none), "states", "states", defArgs s_states, defBody s_states, defScope s_states, [], [("overlap", .int 1), ("wait", .int 0), ("page", .non)]⟩
def d_lost_ids : He.DefD := ⟨("lost_ids", none), "lost_ids", "lost_ids", defArgs s_lost_ids, defBody s_lost_ids, defScope s_lost_ids, [], [("overlap", .int 1), ("wait", .int 0), ("page", .non)]⟩
def d_walk_polls : He.DefD := ⟨("walk_polls", none), "walk_polls", "walk_polls", defArgs s_walk_polls, defBody s_walk_polls, defScope s_walk_polls, [], []⟩
def d_law_source : He.DefD := ⟨("_law_source", none), "_law_source", "_law_source", defArgs s_law_source, defBody s_law_source, defScope s_law_source, [], []⟩
def d_law_draw : He.DefD := ⟨("_law_draw", none), "_law_draw", "_law_draw", defArgs s_law_draw, defBody s_law_draw, defScope s_law_draw, [], []⟩
def d_law_order : He.DefD := ⟨("_law_order", none), "_law_order", "_law_order", defArgs s_law_order, defBody s_law_order, defScope s_law_order, [], []⟩
def d_law_polls : He.DefD := ⟨("_law_polls", none), "_law_polls", "_law_polls", defArgs s_law_polls, defBody s_law_polls, defScope s_law_polls, [], []⟩
def d_law_union : He.DefD := ⟨("_law_union", none), "_law_union", "_law_union", defArgs s_law_union, defBody s_law_union, defScope s_law_union, [], []⟩
def d_law_in_danger : He.DefD := ⟨("_law_in_danger", none), "_law_in_danger", "_law_in_danger", defArgs s_law_in_danger, defBody s_law_in_danger, defScope s_law_in_danger, [], []⟩
def d_law_right : He.DefD := ⟨("_law_right", none), "_law_right", "_law_right", defArgs s_law_right, defBody s_law_right, defScope s_law_right, [], []⟩
def d_law_live_right : He.DefD := ⟨("_law_live_right", none), "_law_live_right", "_law_live_right", defArgs s_law_live_right, defBody s_law_live_right, defScope s_law_live_right, [], []⟩
def d_law : He.DefD := ⟨("law", none), "law", "law", defArgs s_law, defBody s_law, defScope s_law, [], []⟩
def fn : List He.DefD := [d_is_integer, d_is_id, d_is_order, d_require_order, d_require_moment, d_require_polls, d_require_id_of, d_is_name, d_require_name, d_tops_in, d_danger_in, d_missed_at, d_missed_counts, d_danger_of, d_Reader_init, d_Reader_got, d_Reader_doubled, d_State_init, d_State_doubled, d_State_put, d_LiveTable_init, d_LiveTable_require_open, d_LiveTable_call, d_LiveTable_begin, d_LiveTable_commit, d_LiveTable_poll, d_LiveTable_lost_of, d_require_kind, d_require_reader, d_was_passed, d_lists_of, d_states_in, d_read, d_states, d_lost_ids, d_walk_polls, d_law_source, d_law_draw, d_law_order, d_law_polls, d_law_union, d_law_in_danger, d_law_right, d_law_live_right, d_law]
def fa : List He.Fa := [.glo "is_integer", .glo "is_id", .glo "is_order", .glo "require_order", .glo "require_moment", .glo "require_polls", .glo "require_id_of", .glo "is_name", .glo "require_name", .glo "tops_in", .glo "danger_in", .glo "missed_at", .glo "missed_counts", .glo "danger_of", .glo "require_kind", .glo "require_reader", .glo "was_passed", .glo "lists_of", .glo "states_in", .glo "read", .glo "states", .glo "lost_ids", .glo "walk_polls", .glo "_law_source", .glo "_law_draw", .glo "_law_order", .glo "_law_polls", .glo "_law_union", .glo "_law_in_danger", .glo "_law_right", .glo "_law_live_right", .glo "law", .glo "Reader", .glo "State", .glo "LiveTable", .free "len", .free "max", .free "min", .free "range", .free "sorted", .free "all", .free "any", .free "isinstance", .free "list", .free "int", .free "bool", .free "str", .free "set", .free "dict", .free "enumerate", .free "zip", .free "tuple", .free "reversed", .free "sum", .int "GREATEST" (10 ^ 30), .int "MOST_IDS" 30, .int "MOST_POLLS" 30, .int "MOST_LETTERS" 8, .int "MOST_EVENTS" 60, .str "LETTERS" "abcdefghijklmnopqrstuvwxyz", .str "POLL" "poll", .str "READ" "read", .str "LOST" "lost", .str "OPEN" "open", .cls "Reader", .mkr "Reader", .noat "Reader" "kept_ids", .noat "Reader" "kept_cursor", .meth "Reader" "got", .meth "Reader" "doubled", .cls "State", .mkr "State", .noat "State" "kept_begun", .noat "State" "kept_open", .noat "State" "kept_order", .noat "State" "kept_readers", .noat "State" "kept_events", .meth "State" "doubled", .meth "State" "put", .cls "LiveTable", .mkr "LiveTable", .noat "LiveTable" "kept_state", .noat "LiveTable" "kept_past", .meth "LiveTable" "require_open", .meth "LiveTable" "call", .meth "LiveTable" "begin", .meth "LiveTable" "commit", .meth "LiveTable" "poll", .meth "LiveTable" "lost_of"]
end Lh

/-! ## LmRun -/
set_option Elab.async false
set_option linter.all false
set_option maxRecDepth 100000
set_option maxHeartbeats 0
/-! The run of the top. Printed by gen_head.py. -/
namespace Lh
open PySem PySem.Spec PyProof.Rows L2
def names0 : List PySem.Str := ["_wall", "__name__", "LateError", "InvalidHistory", "InvalidOrder", "InvalidMoment", "InvalidPolls", "InvalidId", "InvalidNumber", "InvalidName", "TooLarge", "GREATEST", "MOST_IDS", "MOST_POLLS", "MOST_LETTERS", "LETTERS", "is_integer", "is_id", "is_order", "require_order", "require_moment", "require_polls", "require_id_of", "is_name", "require_name", "tops_in", "danger_in", "missed_at", "missed_counts", "danger_of"]
def names1 : List PySem.Str := ["MOST_EVENTS", "BEGIN", "COMMIT", "ROLLBACK", "is_event", "open_behind", "is_history", "require_history", "POLL", "Reader", "State", "can_stand", "LiveTable", "READ", "LOST", "OPEN", "require_kind", "require_reader", "was_passed", "lists_of", "states_in", "read", "states", "lost_ids", "walk_polls", "_law_source", "_law_draw", "_law_order", "_law_polls", "_law_union"]
def names2 : List PySem.Str := ["_law_in_danger", "_law_right", "_law_live_right"]
def names : List PySem.Str := names0 ++ names1 ++ names2
abbrev R : PySem.W.OpenRow := PySem.W.OpenLaw.row PySem.Challenge.rw_lateids_k67_whole_losses_of_plain_reader
abbrev hk : PySem.W.Hook := He.hookD 5 fa fn
def ob (s : PySem.W.SharedT) : He.AlD := He.obsDG 5 fa fn (HandSHeadRun.getT s)
theorem ob_eq (s : PySem.W.SharedT) : ob s = hk.obs s.abs := He.obsDG_eq (HandSHeadRun.getT_eq s)
theorem run (w : World) : HandSHeadRun.RunEq R (PySem.W.view R.prog [69]) hk ob 8000 names w := by
  intro os
  kernel_rfl
end Lh

/-! ## Lp -/
set_option Elab.async false
set_option linter.all false
set_option maxRecDepth 100000
set_option maxHeartbeats 2000000
/-! What the top has left; a def, a method with its promise; short words. -/
namespace Lp
open PySem PySem.Spec PyProof.Rows L2 Evl
/-- what the top has left -/
structure Facts (K : PySem.W.Frag) (mg : Str → Option Value) : Prop where
  ex : ∃ h, K.In h ∧ h.Ns mainGlobals mg
  says : He.SaysD Lh.fa Lh.fn K
section
variable {K : PySem.W.Frag} {mg : Str → Option Value}
theorem Facts.glo (T : Facts K mg) (i : Nat) {x : Str} (h : Lh.fa[i]? = some (.glo x) := by rfl) : mg x = some (.ref (He.ga K x)) := by
  obtain ⟨hp, X, G⟩ := T.ex
  exact He.glo_ok X G (T.says.fact i h)
theorem Facts.free (T : Facts K mg) (i : Nat) {x : Str} (h : Lh.fa[i]? = some (.free x) := by rfl) : mg x = none := by
  obtain ⟨hp, X, G⟩ := T.ex
  exact He.free_ok X G (T.says.fact i h)
theorem Facts.int (T : Facts K mg) (i : Nat) {x : Str} {v : Int} (h : Lh.fa[i]? = some (.int x v) := by rfl) : ∃ t, mg x = some (.int v t) := by
  obtain ⟨hp, X, G⟩ := T.ex
  exact He.int_ok X G (T.says.fact i h)
theorem Facts.str (T : Facts K mg) (i : Nat) {x v : Str} (h : Lh.fa[i]? = some (.str x v) := by rfl) : ∃ t, mg x = some (.str v t) := by
  obtain ⟨hp, X, G⟩ := T.ex
  exact He.str_ok X G (T.says.fact i h)
theorem Facts.cls (T : Facts K mg) (i : Nat) {x : Str} (h : Lh.fa[i]? = some (.cls x) := by rfl) : Cls K (He.ga K x) := He.cls_ok (T.says.fact i h)
theorem Facts.noat (T : Facts K mg) (i : Nat) {x f : Str} (h : Lh.fa[i]? = some (.noat x f) := by rfl) : NoAttr K (He.ga K x) f := He.noat_ok (T.says.fact i h)
theorem Facts.meth (T : Facts K mg) (i : Nat) {x m : Str} (h : Lh.fa[i]? = some (.meth x m) := by rfl) : Meth K (He.ga K x) m (He.ma K (He.ga K x) m) := He.meth_ok (T.says.fact i h)
theorem Facts.mkr (T : Facts K mg) (i : Nat) {x : Str} (h : Lh.fa[i]? = some (.mkr x) := by rfl) : Mk K (He.ga K x) (He.ma K (He.ga K x) "__init__") := He.mkr_ok (T.says.fact i h)
theorem Facts.fn (T : Facts K mg) (i : Nat) {d : He.DefD} (h : Lh.fn[i]? = some d := by rfl) : ∃ fd, FunD K d.name d.qual d.params d.body d.scope (d.dvs K) (d.kws K) (He.fAd K d.at_) fd := T.says.def_ i h
end
/-! ### the names' facts, by their names -/
section
variable {K : PySem.W.Frag} {mg : Str → Option Value} (T : Facts K mg)
include T
theorem Facts.n_len : mg "len" = none := T.free 35
theorem Facts.n_max : mg "max" = none := T.free 36
theorem Facts.n_min : mg "min" = none := T.free 37
theorem Facts.n_range : mg "range" = none := T.free 38
theorem Facts.n_sorted : mg "sorted" = none := T.free 39
theorem Facts.n_all : mg "all" = none := T.free 40
theorem Facts.n_any : mg "any" = none := T.free 41
theorem Facts.n_isinstance : mg "isinstance" = none := T.free 42
theorem Facts.n_list : mg "list" = none := T.free 43
theorem Facts.n_int : mg "int" = none := T.free 44
theorem Facts.n_bool : mg "bool" = none := T.free 45
theorem Facts.n_str : mg "str" = none := T.free 46
theorem Facts.n_set : mg "set" = none := T.free 47
theorem Facts.n_dict : mg "dict" = none := T.free 48
theorem Facts.n_enumerate : mg "enumerate" = none := T.free 49
theorem Facts.n_zip : mg "zip" = none := T.free 50
theorem Facts.c_GREATEST : ∃ t, mg "GREATEST" = some (.int (10 ^ 30) t) := T.int 54
theorem Facts.c_MOST_IDS : ∃ t, mg "MOST_IDS" = some (.int 30 t) := T.int 55
theorem Facts.c_MOST_POLLS : ∃ t, mg "MOST_POLLS" = some (.int 30 t) := T.int 56
theorem Facts.c_MOST_LETTERS : ∃ t, mg "MOST_LETTERS" = some (.int 8 t) := T.int 57
theorem Facts.c_MOST_EVENTS : ∃ t, mg "MOST_EVENTS" = some (.int 60 t) := T.int 58
theorem Facts.c_LETTERS : ∃ t, mg "LETTERS" = some (.str "abcdefghijklmnopqrstuvwxyz" t) := T.str 59
theorem Facts.c_POLL : ∃ t, mg "POLL" = some (.str "poll" t) := T.str 60
theorem Facts.c_READ : ∃ t, mg "READ" = some (.str "read" t) := T.str 61
theorem Facts.c_LOST : ∃ t, mg "LOST" = some (.str "lost" t) := T.str 62
theorem Facts.c_OPEN : ∃ t, mg "OPEN" = some (.str "open" t) := T.str 63
end
section
variable {X : Cx} {x : Str} {pos : Pos}
theorem pe_gint {i : Int} (hm : ∃ t, X.mg x = some (.int i t)) (hg : Gl X x := by rfl) (hd : (x == ("__debug__" : Str)) = false := by decide) : PE X (.Name x pos) (tC (.int i)) := by
  obtain ⟨t, h⟩ := hm
  exact pe_glob hg h ⟨_, rfl⟩ hd
theorem pe_gstr {i : Str} (hm : ∃ t, X.mg x = some (.str i t)) (hg : Gl X x := by rfl) (hd : (x == ("__debug__" : Str)) = false := by decide) : PE X (.Name x pos) (tC (.str i)) := by
  obtain ⟨t, h⟩ := hm
  exact pe_glob hg h ⟨_, rfl⟩ hd
/-- what the proof never comes to -/
def tNo : TE := fun _ _ _ => False
theorem pe_no {e : Expr} : PE X e tNo := ⟨fun _ _ _ _ _ _ h => h.elim⟩
def tNoT : TT := fun _ _ _ => False
theorem pt_no {e : Expr} : PT X e tNoT := ⟨fun _ _ _ _ _ _ h => h.elim⟩
end
/-! ### a def with its promise -/
structure Def (P : Program) (w : World) (K : PySem.W.Frag) (mg : Str → Option Value) (base : Heap) (x : Str) (k : Nat) (ps : List Str) (dvs : List V) (sp : Sp) : Prop where
  f : ∃ fd ds, FnOk P w K mg base CX0 k (He.ga K x) fd ps sp ∧ Binds K fd ps ds ∧ Vals dvs ds
  mg : mg x = some (.ref (He.ga K x))
  kp : PySem.W.keepIn K (.ref (He.ga K x)) = true
/-- a method of the class C -/
structure Mth (P : Program) (w : World) (K : PySem.W.Frag) (mg : Str → Option Value) (base : Heap) (C m : Str) (k : Nat) (ps : List Str) (sp : Sp) : Prop where
  f : ∃ fd, FnOk P w K mg base CX0 k (He.ma K (He.ga K C) m) fd ps sp ∧ Binds K fd ps []
section
variable {X : Cx} {x C m : Str} {k : Nat} {ps : List Str} {dvs : List V} {sp : Sp} {e o : Expr} {es : List Expr} {t : TA} {ta : TE} {p pos apos : Pos}
theorem pe_def (D : Def X.prog X.w X.K X.mg X.base x k ps dvs sp) (hr : Room k X.A) (ha : PA X (e :: es) t) (hg : Gl X x := by rfl) (hdb : (x == ("__debug__" : Str)) = false := by decide)
    (he : starEach (e :: es) X.env = (false, eval e X.env) :: starEach es X.env := by rfl) (hpl : (backTo pos (starEach es X.env)).any (·.1) = false := by rfl) : PE X (.Call (.Name x p) (e :: es) [] pos) (tCall sp dvs E0 t) := by
  obtain ⟨fd, ds, F, hb, hd⟩ := D.f
  exact pe_call F hr hg D.mg D.kp hb hd pass0 ha hdb he hpl
theorem pe_mth {pl : Sem Bool} (D : Mth X.prog X.w X.K X.mg X.base C m k ps sp) (hm : Meth X.K (He.ga X.K C) m (He.ma X.K (He.ga X.K C) m)) (c : Cls X.K (He.ga X.K C)) (hr : Room k X.A) (he : PE X o ta) (ha : PA X (e :: es) t)
    (hst : starEach (e :: es) X.env = (false, eval e X.env) :: starEach es X.env := by rfl) (hpl : (backTo pos (starEach es X.env)).any (·.1) = false := by rfl)
    (ht : eval (.Call (.Attribute o m apos) (e :: es) [] pos) X.env = (do
      let ov ← eval o X.env
      standAt apos.atName
      let (f, first) ← holding [ov] (getMethod ov m pl)
      callWith pos f first (backTo pos (starEach (e :: es) X.env)) (backToKw pos (keywordEach [] X.env))) := by rfl) :
    PE X (.Call (.Attribute o m apos) (e :: es) [] pos) (tMeth (He.ga X.K C) m sp [] E0 ta t) := by
  obtain ⟨fd, F, hb⟩ := D.f
  exact pe_meth (pl := pl) he c hm F hr hb .nil pass0 ha hst hpl ht
theorem pe_mth0 {pl : Sem Bool} (D : Mth X.prog X.w X.K X.mg X.base C m k ps sp) (hm : Meth X.K (He.ga X.K C) m (He.ma X.K (He.ga X.K C) m)) (c : Cls X.K (He.ga X.K C)) (hr : Room k X.A) (he : PE X o ta)
    (ht : eval (.Call (.Attribute o m apos) [] [] pos) X.env = (do
      let ov ← eval o X.env
      standAt apos.atName
      let (f, first) ← holding [ov] (getMethod ov m pl)
      callWith pos f first (backTo pos (starEach [] X.env)) (backToKw pos (keywordEach [] X.env))) := by rfl) :
    PE X (.Call (.Attribute o m apos) [] [] pos) (tMeth (He.ga X.K C) m sp [] E0 ta tNil) := by
  obtain ⟨fd, F, hb⟩ := D.f
  exact pe_meth0 (pl := pl) he c hm F hr hb .nil pass0 ht
theorem pe_new0 (D : Mth X.prog X.w X.K X.mg X.base C "__init__" k ps sp) (M : Mk X.K (He.ga X.K C) (He.ma X.K (He.ga X.K C) "__init__")) (hm : X.mg C = some (.ref (He.ga X.K C))) (hr : Room (k + 1) X.A) (hg : Gl X C := by rfl)
    (hdb : (C == ("__debug__" : Str)) = false := by decide) : PE X (.Call (.Name C p) [] [] pos) (tMake (He.ga X.K C) sp [] E0 tNil) := by
  obtain ⟨fd, F, hb⟩ := D.f
  exact pe_make0 M F hr hg hm hb .nil pass0 hdb
end
section
variable {P : Program} {w : World} {K : PySem.W.Frag} {mg : Str → Option Value} {base : Heap}
/-- THE RULE for a def: its body's term, the term's reading -/
theorem go {x qual : Str} {params : Arguments} {body : List Stmt} {scope : Scope} {dvs : List V} {kws : List (Str × V)} {f : Addr} {fd : FuncData} {N ps : List Str} {k : Nat} {sp : Sp} (F : FunD K x qual params body scope dvs kws f fd) (S : FnScope N ps scope)
    (len : ∀ vs H Q E, sp vs H Q E → vs.length = ps.length)
    (hbody : ∀ (cdv : Value) (A : Around) (outer : List Env) (s : Shared) (H : Hp) (vs : List V) (Q : VK) (E : XK), Room k (A.deeper (envOfC qual scope s.heap.objs.size f cdv)) → sp vs H Q E →
      ∃ t, PSs (cxOf CX0 P w K mg base N qual scope f cdv A outer s H E).nox body t ∧ t { nx := fun _ H' => Q .non H', rt := Q } (start N vs) H) : FnOk P w K mg base CX0 (k + 1) f fd ps sp :=
  F.ok S len fun cdv A outer s H vs Q E hr h => by
    obtain ⟨t, h1, h2⟩ := hbody cdv A outer s H vs Q E hr h
    exact ⟨t, h1.nox, h2⟩
end
/-! ### promises of one shape -/
/-- a value comes back; pre tells it from the arguments and the heap -/
def spV (n : Nat) (pre : List V → Hp → V → Prop) : Sp := fun vs H Q _ => vs.length = n ∧ ∃ z, pre vs H z ∧ RetV z H Q
/-- a new list comes back -/
def spL (n : Nat) (pre : List V → Hp → List V → Prop) : Sp := fun vs H Q _ => vs.length = n ∧ ∃ xs, pre vs H xs ∧ RetL xs H Q
theorem spV_len {n : Nat} {pre : List V → Hp → V → Prop} {ps : List Str} (h : ps.length = n) : ∀ vs H Q E, spV n pre vs H Q E → vs.length = ps.length := fun vs H Q E q => q.1.trans h.symm
theorem spL_len {n : Nat} {pre : List V → Hp → List V → Prop} {ps : List Str} (h : ps.length = n) : ∀ vs H Q E, spL n pre vs H Q E → vs.length = ps.length := fun vs H Q E q => q.1.trans h.symm
section
variable {σ : L2.St} {H : Hp} {te ta tb : TE} {v : V}
/-- the call of such a def -/
theorem ev_spV {n : Nat} {pre : List V → Hp → V → Prop} {dvs vs : List V} {E : XK} {t : TA} {z : V} (h : EvA t σ H vs) (hn : (vs ++ dvs).length = n) (hp : ∀ H1, Ex H H1 → pre (vs ++ dvs) H1 z) : Ev (tCall (spV n pre) dvs E t) σ H z :=
  ev_call h fun H1 e Q k E => ⟨hn, z, hp H1 e, fun H2 e2 => k H2 e2⟩
theorem el_spL {n : Nat} {pre : List V → Hp → List V → Prop} {dvs vs xs : List V} {E : XK} {t : TA} (h : EvA t σ H vs) (hn : (vs ++ dvs).length = n) (hp : ∀ H1, Ex H H1 → pre (vs ++ dvs) H1 xs) : EvL (tCall (spL n pre) dvs E t) σ H xs :=
  el_call h fun H1 e Q k E => ⟨hn, xs, hp H1 e, fun p H2 h1 e2 h2 => k p H2 h1 e2 h2⟩
end
end Lp

/-! ## Ke -/
set_option Elab.async false
set_option linter.all false
set_option maxRecDepth 100000
set_option maxHeartbeats 2000000
/-! What expressions evaluate to: more of Evl's kind. -/
namespace Lp
open PySem PySem.Spec PyProof.Rows L2 Evl
theorem pe_ty {X : Cx} {x : Str} {n : String} {pos : Pos} (hm : X.mg x = none) (hv : bootBuiltins x = some (.type n)) (hg : Gl X x := by rfl) (hn : x ≠ "__name__" := by decide) (hd : (x == ("__debug__" : Str)) = false := by decide) : PE X (.Name x pos) (tC (.ty n)) :=
  pe_bltn (v := .ty n) hg hm hv rfl hn hd
section
variable {K : PySem.W.Frag} {σ : L2.St} {H H' : Hp} {ta tb tc te : TE} {x y z v : V} {t : TT}
theorem ev_isi {a c : String} {b : Bool} (ha : Ev ta σ H x) (ty : ∀ H1, Ex H H1 → TyX K H1 x (.type a)) (kb : kitB a c = some b) : Ev (tCB (rIsi K) (tCons ta (tCons (tC (.ty c)) tNil))) σ H (.bl b) :=
  ev_cb (ea_cons ha (ea_cons ev_c ea_nil)) fun H1 e Q k => ⟨x, .ty c, .type a, .type c, b, rfl, .ty c, ty H1 e, kit_ty kb, k H1 (Ex.refl _)⟩
theorem ty_int {H : Hp} {i : Int} : TyX K H (.int i) (.type "int") := .base (.int i)
theorem ty_str {H : Hp} {i : Str} : TyX K H (.str i) (.type "str") := .base (.str i)
/-- a list that may be read -/
theorem ty_lst {H : Hp} {p : Addr} {xs : List V} (h : SqL K H p xs) : TyX K H (.ref p) (.type "list") := by
  rcases h with (h | ⟨o, h⟩) | ⟨o, its, n, h, c, _⟩
  · exact .base (.lst h)
  · exact .base (.frz h)
  · exact .kList h c
theorem ev_chain {r r' : R2} {b b' : Bool} (ha : Ev ta σ H x) (hb : Ev tb σ H y) (hr : RV r x y H (.bl b)) (hc : b = true → Ev tc σ H z) (hr' : b = true → RV r' y z H (.bl b')) : Ev (tChain r r' ta tb tc) σ H (.bl (b && b')) := by
  intro H1 e1 Q k
  refine ha H1 e1 _ fun H2 e2 => hb H2 (e1.trans e2) _ fun H3 e3 => hr H3 ((e1.trans e2).trans e3) _ fun H4 e4 => ⟨b, rfl, ?_⟩
  have e14 : Ex H1 H4 := (e2.trans e3).trans e4
  cases b with
  | false => exact k H4 e14
  | true => exact hc rfl H4 (e1.trans e14) _ fun H5 e5 => hr' rfl H5 ((e1.trans e14).trans e5) _ fun H6 e6 => k H6 ((e14.trans e5).trans e6)
theorem rv_to {r : R2} {w : V} (e : z = w) (h : RV r x y H z) : RV r x y H w := e ▸ h
theorem ev_to {w : V} (h : Ev te σ H v) (e : v = w) : Ev te σ H w := e ▸ h
theorem ev_bl {a b : Bool} (h : Ev te σ H (.bl a)) (e : a = b) : Ev te σ H (.bl b) := e ▸ h
/-- len -/
theorem ev_len' {p : Addr} {xs : List V} (ha : Ev ta σ H (.ref p)) (h : SqL K H p xs) : Ev (tCB (fun xs H Q => ∃ p ys, xs = [.ref p] ∧ (SqL K H p ys ∨ SqT K H p ys) ∧ Q (.int ys.length) H) (tCons ta tNil)) σ H (.int (xs.length : Int)) :=
  ev_cb (ea_cons ha ea_nil) fun H1 e Q k => ⟨p, xs, rfl, .inl (ex_l e h), k H1 (Ex.refl _)⟩
/-- all -/
theorem ev_all {bs : List Bool} (ha : EvL ta σ H (bs.map V.bl)) : Ev (tCB (rAll K) (tCons ta tNil)) σ H (.bl (bs.all id)) := by
  intro H1 e1 Q k
  exact ha H1 e1 _ fun p H2 h1 e2 h2 => ⟨p, bs, rfl, SqL.of h2, k H2 e2⟩
theorem ev_any {bs : List Bool} (ha : EvL ta σ H (bs.map V.bl)) : Ev (tCB (rAny K) (tCons ta tNil)) σ H (.bl (bs.any id)) := by
  intro H1 e1 Q k
  exact ha H1 e1 _ fun p H2 h1 e2 h2 => ⟨p, bs, rfl, SqL.of h2, k H2 e2⟩
/-- max of a new list -/
theorem ev_maxL {c : Int} {ns : List Int} (ha : EvL ta σ H ((c :: ns).map V.int)) : Ev (tCB (rMax K) (tCons ta tNil)) σ H (.int (Lm.mxl c ns)) := by
  intro H1 e1 Q k
  refine ha H1 e1 _ fun p H2 h1 e2 h2 => ⟨p, c :: ns, rfl, SqL.of h2, by simp, fun m hm hle => ?_⟩
  have em : m = Lm.mxl c ns := Lm.mxl_of hm hle
  rw [em]
  exact k H2 e2
/-- sorted of a list, of a new list -/
theorem el_sorted {p : Addr} {ns : List Int} (ha : Ev ta σ H (.ref p)) (hs : SqL K H p (ns.map V.int)) : EvL (tCB (rSortedI K) (tCons ta tNil)) σ H ((Lm.srt ns).map V.int) := by
  intro H1 e1 Q k
  refine ha H1 e1 _ fun H2 e2 => ⟨p, ns, rfl, ex_l (e1.trans e2) hs, fun ns' q hp hs' hn => ?_⟩
  rw [Lm.srt_eq hp hs']
  exact k q _ (fresh_back e2 hn) (e2.trans (Ex.new hn)) upd_same
theorem el_sortedN {ns : List Int} (ha : EvL ta σ H (ns.map V.int)) : EvL (tCB (rSortedI K) (tCons ta tNil)) σ H ((Lm.srt ns).map V.int) := by
  intro H1 e1 Q k
  refine ha H1 e1 _ fun p H2 h1 e2 h2 => ⟨p, ns, rfl, SqL.of h2, fun ns' q hp hs' hn => ?_⟩
  rw [Lm.srt_eq hp hs']
  exact k q _ (fresh_back e2 hn) (e2.trans (Ex.new hn)) upd_same
end
/-! ### comprehensions -/
theorem range_fm {α : Type} (xs : List α) (f : α → Option V) : ∀ n, (List.range n).filterMap (fun i => (xs[i]?).bind f) = (xs.take n).filterMap f
  | 0 => by simp
  | n + 1 => by
    rw [List.range_succ, List.filterMap_append, range_fm xs f n, List.take_add_one, List.filterMap_append]
    have e : List.filterMap (fun i => (xs[i]?).bind f) [n] = ((xs[n]?).bind f).toList := by
      rw [List.filterMap_cons]
      cases (xs[n]?).bind f <;> rfl
    rw [e]
    cases h : xs[n]? with
    | none => rfl
    | some x =>
      refine congrArg _ (show (f x).toList = List.filterMap f [x] from ?_)
      rw [List.filterMap_cons]
      cases f x <;> rfl
theorem range_fm' {α : Type} (xs : List α) (f : α → Option V) : (List.range xs.length).filterMap (fun i => (xs[i]?).bind f) = xs.filterMap f := by
  rw [range_fm, List.take_length]
theorem fm_snoc {out : Nat → Option V} (i : Nat) : (List.range (i + 1)).filterMap out = (List.range i).filterMap out ++ (out i).toList := by
  rw [List.range_succ, List.filterMap_append, List.filterMap_cons]
  cases out i <;> rfl
theorem fm_len {out : Nat → Option V} (i : Nat) : ((List.range i).filterMap out).length ≤ i := by
  have := List.length_filterMap_le out (List.range i)
  rw [List.length_range] at this
  exact this
theorem fm_flt {α : Type} (xs : List α) (p : α → Bool) (em : α → V) : xs.filterMap (fun x => if p x = true then some (em x) else none) = (xs.filter p).map em := by
  induction xs with
  | nil => rfl
  | cons x r ih =>
    cases h : p x with
    | true => simp [h, ih]
    | false => simp [h, ih]
theorem fm_map {α : Type} (xs : List α) (em : α → V) : xs.filterMap (fun x => some (em x)) = xs.map em := by
  induction xs with
  | nil => rfl
  | cons x r ih => simp [ih]
section
variable {K : PySem.W.Frag} {σ : L2.St} {H H1 : Hp} {t : TT} {te tl : TE} {g : TG} {vs : List Nat} {J : It} {n : Nat} {G : Hp → Prop} {Y : Nat → Hp → V → Hp → Prop}
/-- a comprehension whose turns change nothing that is known -/
theorem lc_pure (w : Walk J n G Y) {D : Addr} {Qd : Hp → Prop} (out : Nat → Option V) (hD : H1 D = none) (hG : ∀ H', Ex H1 H' → G H') (hn : n ≤ 100000)
    (hs : ∀ i x H' H'', i < n → Ex H1 H' → Y i H' x H'' → Ex H' H'' ∧ ∃ σ2, wipe σ2 vs = wipe σ vs ∧ (∀ Q : L2.St → Hp → Prop, Q σ2 H'' → g x (wipe σ vs) H'' Q) ∧ (out i = none → EvT t σ2 H'' false) ∧ ∀ v, out i = some v → EvT t σ2 H'' true ∧ Ev te σ2 H'' v)
    (hd : ∀ H', Ex H1 H' → H' D = some (.lst ((List.range n).filterMap out)) → Qd H') :
    ∃ W : Nat → Nat → Hp → Prop, (∃ m, W 0 m (upd H1 D (.lst []))) ∧ ∀ i m H, W i m H →
      (J.stop i H ∧ Qd H) ∨ (J.go i H ∧ ∃ Nx : Hp → Prop, (∀ H', Nx H' → ∃ m', m' < m ∧ W (i + 1) m' H') ∧ ∀ x H', J.yld i H x H' → g x (wipe σ vs) H' fun σ2 H2 => wipe σ2 vs = wipe σ vs ∧ t σ2 H2 fun b H3 =>
        if b = true then te σ2 H3 fun y H4 => ∃ acc, H4 D = some (.lst acc) ∧ acc.length < sizeLine ∧ Nx (upd H4 D (.lst (acc ++ [y]))) else Nx H3) := by
  refine lc_it w (fun i H' => Ex H1 H' ∧ H' D = some (.lst ((List.range i).filterMap out))) ⟨Ex.new hD, upd_same⟩ (fun i H' _ h => hG H' h.1) ?_ (fun H' h => hd H' h.1 h.2)
  rintro i x H' H'' hi ⟨e, hl⟩ y
  obtain ⟨e2, σ2, hw, hg, h0, h1⟩ := hs i x H' H'' hi e y
  refine hg _ ⟨hw, ?_⟩
  cases ho : out i with
  | none =>
    refine h0 ho H'' (Ex.refl _) _ fun H3 e3 => ?_
    rw [if_neg Bool.false_ne_true]
    refine ⟨(e.trans e2).trans e3, ?_⟩
    rw [fm_snoc, ho, Option.toList_none, List.append_nil]
    exact e3 _ _ (e2 _ _ hl)
  | some v =>
    obtain ⟨a, b⟩ := h1 v ho
    refine a H'' (Ex.refl _) _ fun H3 e3 => ?_
    rw [if_pos rfl]
    refine b H3 e3 _ fun H4 e4 => ⟨_, e4 _ _ (e3 _ _ (e2 _ _ hl)), sz_lt (Nat.lt_of_le_of_lt (fm_len i) (by omega)), Ex.mut (((e.trans e2).trans e3).trans e4) hD, ?_⟩
    rw [upd_same, fm_snoc, ho]
    rfl
variable {α : Type} {xs : List α} {em : α → V} {j : Nat} {a : Addr}
/-- over a list that is known -/
theorem el_lcF (f : α → Option V) (h : Ev tl σ H (.ref a)) (hx : SqL K H a (xs.map em)) (hz : xs.length ≤ 100000) (hw : ∀ x, wipe ((wipe σ vs).set j (some x)) vs = wipe σ vs)
    (hs : ∀ x ∈ xs, ∀ H1, Ex H H1 → (f x = none → EvT t ((wipe σ vs).set j (some (em x))) H1 false) ∧ ∀ v, f x = some v → EvT t ((wipe σ vs).set j (some (em x))) H1 true ∧ Ev te ((wipe σ vs).set j (some (em x))) H1 v) :
    EvL (tLc (iList K tl) (gName j) t te vs) σ H (xs.filterMap f) := by
  intro H1 e1 Q k
  refine h H1 e1 _ fun H2 e2 => ⟨a, rfl, ⟨_, ex_l (e1.trans e2) hx⟩, fun D hD => ?_⟩
  refine lc_pure (n := xs.length) (List.length_map em ▸ walk_list (K := K) (a := a) (xs := xs.map em)) (fun i => (xs[i]?).bind f) hD (fun H' e' => ex_l ((e1.trans e2).trans e') hx) hz ?_ fun H' e' h' => k D H' (fresh_back e2 hD) (e2.trans e') (range_fm' xs f ▸ h')
  rintro i x H' H'' hi e' ⟨rfl, hy⟩
  rw [List.getElem?_map, List.getElem?_eq_getElem hi] at hy
  have hy' : em xs[i] = x := Option.some.inj hy
  subst hy'
  refine ⟨Ex.refl _, _, hw _, fun Q q => q, ?_⟩
  have q := hs xs[i] (List.getElem_mem hi) H'' ((e1.trans e2).trans e')
  rw [List.getElem?_eq_getElem hi]
  exact q
/-- over a new list -/
theorem el_lcFN (f : α → Option V) (h : EvL tl σ H (xs.map em)) (hz : xs.length ≤ 100000) (hw : ∀ x, wipe ((wipe σ vs).set j (some x)) vs = wipe σ vs)
    (hs : ∀ x ∈ xs, ∀ H1, Ex H H1 → (f x = none → EvT t ((wipe σ vs).set j (some (em x))) H1 false) ∧ ∀ v, f x = some v → EvT t ((wipe σ vs).set j (some (em x))) H1 true ∧ Ev te ((wipe σ vs).set j (some (em x))) H1 v) :
    EvL (tLc (iList K tl) (gName j) t te vs) σ H (xs.filterMap f) := by
  intro H1 e1 Q k
  refine h H1 e1 _ fun a H2 h1 e2 h2 => ⟨a, rfl, ⟨_, SqL.of h2⟩, fun D hD => ?_⟩
  refine lc_pure (n := xs.length) (List.length_map em ▸ walk_list (K := K) (a := a) (xs := xs.map em)) (fun i => (xs[i]?).bind f) hD (fun H' e' => SqL.of (e' _ _ h2)) hz ?_ fun H' e' h' => k D H' (fresh_back e2 hD) (e2.trans e') (range_fm' xs f ▸ h')
  rintro i x H' H'' hi e' ⟨rfl, hy⟩
  rw [List.getElem?_map, List.getElem?_eq_getElem hi] at hy
  have hy' : em xs[i] = x := Option.some.inj hy
  subst hy'
  refine ⟨Ex.refl _, _, hw _, fun Q q => q, ?_⟩
  have q := hs xs[i] (List.getElem_mem hi) H'' ((e1.trans e2).trans e')
  rw [List.getElem?_eq_getElem hi]
  exact q
/-- [x for x in xs if p x] -/
theorem el_flt (p : α → Bool) (h : Ev tl σ H (.ref a)) (hx : SqL K H a (xs.map em)) (hz : xs.length ≤ 100000) (hw : ∀ x, wipe ((wipe σ vs).set j (some x)) vs = wipe σ vs) (hj : ∀ x, ((wipe σ vs).set j (some x))[j]? = some (some x))
    (hs : ∀ x ∈ xs, ∀ H1, Ex H H1 → EvT t ((wipe σ vs).set j (some (em x))) H1 (p x)) : EvL (tLc (iList K tl) (gName j) t (tVar j) vs) σ H ((xs.filter p).map em) := by
  rw [← fm_flt]
  refine el_lcF _ h hx hz hw fun x hxm H1 e => ?_
  have q := hs x hxm H1 e
  cases hp : p x with
  | true =>
    rw [hp] at q
    refine ⟨fun z => by simp at z, fun v z => ?_⟩
    rw [if_pos rfl] at z
    cases z
    exact ⟨q, ev_var (hj _)⟩
  | false =>
    rw [hp] at q
    exact ⟨fun _ => q, fun v z => by simp at z⟩
theorem el_fltN (p : α → Bool) (h : EvL tl σ H (xs.map em)) (hz : xs.length ≤ 100000) (hw : ∀ x, wipe ((wipe σ vs).set j (some x)) vs = wipe σ vs) (hj : ∀ x, ((wipe σ vs).set j (some x))[j]? = some (some x))
    (hs : ∀ x ∈ xs, ∀ H1, Ex H H1 → EvT t ((wipe σ vs).set j (some (em x))) H1 (p x)) : EvL (tLc (iList K tl) (gName j) t (tVar j) vs) σ H ((xs.filter p).map em) := by
  rw [← fm_flt]
  refine el_lcFN _ h hz hw fun x hxm H1 e => ?_
  have q := hs x hxm H1 e
  cases hp : p x with
  | true =>
    rw [hp] at q
    refine ⟨fun z => by simp at z, fun v z => ?_⟩
    rw [if_pos rfl] at z
    cases z
    exact ⟨q, ev_var (hj _)⟩
  | false =>
    rw [hp] at q
    exact ⟨fun _ => q, fun v z => by simp at z⟩
/-- [e for x in xs] -/
theorem el_map (q : α → V) (h : Ev tl σ H (.ref a)) (hx : SqL K H a (xs.map em)) (hz : xs.length ≤ 100000) (hw : ∀ x, wipe ((wipe σ vs).set j (some x)) vs = wipe σ vs)
    (hs : ∀ x ∈ xs, ∀ H1, Ex H H1 → Ev te ((wipe σ vs).set j (some (em x))) H1 (q x)) : EvL (tLc (iList K tl) (gName j) tYes te vs) σ H (xs.map q) := by
  rw [← fm_map]
  refine el_lcF _ h hx hz hw fun x hxm H1 e => ⟨fun z => by simp at z, fun v z => ?_⟩
  cases z
  exact ⟨fun H2 e2 Q k => k H2 (Ex.refl _), hs x hxm H1 e⟩
/-- over the signs of a text -/
theorem el_lcStr {z : Str} (out : Nat → Option V) (h : Ev tl σ H (.str z)) (hz : z.cps.size ≤ 100000) (hw : ∀ x, wipe ((wipe σ vs).set j (some x)) vs = wipe σ vs)
    (hs : ∀ i c, z.cps[i]? = some c → ∀ H1, Ex H H1 → (out i = none → EvT t ((wipe σ vs).set j (some (.str ⟨#[c]⟩))) H1 false) ∧ ∀ v, out i = some v → EvT t ((wipe σ vs).set j (some (.str ⟨#[c]⟩))) H1 true ∧ Ev te ((wipe σ vs).set j (some (.str ⟨#[c]⟩))) H1 v) :
    EvL (tLc (iStr tl) (gName j) t te vs) σ H ((List.range z.cps.size).filterMap out) := by
  intro H1 e1 Q k
  refine h H1 e1 _ fun H2 e2 => ⟨z, rfl, fun D hD => ?_⟩
  refine lc_pure (walk_str (z := z)) out hD (fun _ _ => trivial) hz ?_ fun H' e' h' => k D H' (fresh_back e2 hD) (e2.trans e') h'
  rintro i x H' H'' hi e' ⟨rfl, c, hc, rfl⟩
  exact ⟨Ex.refl _, _, hw _, fun Q q => q, hs i c hc H'' ((e1.trans e2).trans e')⟩
end
/-! ### dict comprehensions with keys that differ -/
section
variable {K : PySem.W.Frag} {σ : L2.St} {H H1 : Hp} {te tk tv tl : TE} {g : TG} {vs : List Nat} {J : It} {n : Nat} {G : Hp → Prop} {Y : Nat → Hp → V → Hp → Prop}
theorem valV_none {kvs : List (Key × V)} {k : Key} (h : ∀ p ∈ kvs, p.1 ≠ k) : valV kvs k = none := by
  unfold valV
  rw [List.find?_eq_none.mpr fun p hp z => h p hp (of_decide_eq_true z)]
  rfl
theorem dc_pure (w : Walk J n G Y) {D : Addr} {Qd : Hp → Prop} (kv : Nat → Key × V) (hD : H1 D = none) (hG : ∀ H', Ex H1 H' → G H') (hn : n ≤ 100000) (hnew : ∀ i j, j < i → i < n → (kv j).1 ≠ (kv i).1)
    (hs : ∀ i x H' H'', i < n → Ex H1 H' → Y i H' x H'' → Ex H' H'' ∧ ∃ σ2, wipe σ2 vs = wipe σ vs ∧ (∀ Q : L2.St → Hp → Prop, Q σ2 H'' → g x (wipe σ vs) H'' Q) ∧ Ev tk σ2 H'' (kV (kv i).1) ∧ Ev tv σ2 H'' (kv i).2)
    (hd : ∀ H', Ex H1 H' → H' D = some (.dK ((List.range n).map kv)) → Qd H') :
    ∃ W : Nat → Nat → Hp → Prop, (∃ m, W 0 m (upd H1 D (.dK []))) ∧ ∀ i m H, W i m H →
      (J.stop i H ∧ Qd H) ∨ (J.go i H ∧ ∃ Nx : Hp → Prop, (∀ H', Nx H' → ∃ m', m' < m ∧ W (i + 1) m' H') ∧ ∀ x H', J.yld i H x H' → g x (wipe σ vs) H' fun σ2 H2 => wipe σ2 vs = wipe σ vs ∧ tYes σ2 H2 fun b H3 =>
        if b = true then tk σ2 H3 fun y H4 => tv σ2 H4 fun z H5 => ∃ kvs k, y = kV k ∧ H5 D = some (.dK kvs) ∧ kvs.length < sizeLine ∧ Nx (upd H5 D (.dK (putK kvs k z))) else Nx H3) := by
  refine ⟨fun i m H' => m = n - i ∧ i ≤ n ∧ Ex H1 H' ∧ H' D = some (.dK ((List.range i).map kv)), ⟨n, by simp, Nat.zero_le _, Ex.new hD, upd_same⟩, ?_⟩
  rintro i m H' ⟨rfl, hi, e, hl⟩
  by_cases hlt : i < n
  · refine .inr ⟨w.goes i H' hlt (hG H' e), fun H'' => Ex H1 H'' ∧ H'' D = some (.dK ((List.range (i + 1)).map kv)), fun H'' h => ⟨n - (i + 1), by omega, rfl, hlt, h.1, h.2⟩, fun x H'' y => ?_⟩
    obtain ⟨e2, σ2, hw, hg, hk, hv⟩ := hs i x H' H'' hlt e (w.yields i H' x H'' hlt (hG H' e) y)
    refine hg _ ⟨hw, ?_⟩
    simp only [tYes, if_true]
    refine hk H'' (Ex.refl _) _ fun H4 e4 => hv H4 e4 _ fun H5 e5 => ⟨_, (kv i).1, rfl, e5 _ _ (e4 _ _ (e2 _ _ hl)), ?_, Ex.mut (((e.trans e2).trans e4).trans e5) hD, ?_⟩
    · refine sz_lt ?_
      rw [List.length_map, List.length_range]
      omega
    · rw [upd_same, putK_new _ (valV_none fun p hp => ?_), List.range_succ, List.map_append]
      · rfl
      · obtain ⟨j, hj, rfl⟩ := List.mem_map.mp hp
        exact hnew i j (List.mem_range.mp hj) hlt
  · have ei : i = n := by omega
    subst ei
    exact .inl ⟨w.stops H' (hG H' e), hd H' e hl⟩
theorem walk_enumS {a : Addr} {xs : List V} {k : Int} : Walk (Kx.IteS K a k) xs.length (fun H => SqL K H a xs) (YPair (fun i => some (.int (k + (i : Nat)))) (fun i => xs[i]?)) where
  goes := fun i H hi h => ⟨xs, xs[i], h, List.getElem?_eq_getElem hi⟩
  stops := fun H h => ⟨xs, h, Nat.le_refl _⟩
  yields := fun i H v H' hi h y => by
    obtain ⟨T, x, e, hT, e2, hx⟩ := y
    exact ⟨T, _, x, e, hT, e2, rfl, hx xs h⟩
/-- a pair as a target -/
theorem g_pair {a b : Nat} {T : Addr} {x y : V} {Q : L2.St → Hp → Prop} (h : H T = some (.tup [x, y])) (q : Q ((σ.set a (some x)).set b (some y)) H) : gTup K 2 (gCons (gName a) (gCons (gName b) gNil)) (.ref T) σ H Q :=
  ⟨T, [x, y], rfl, SqT.of h, rfl, x, [y], rfl, y, [], rfl, rfl, q⟩
/-- for i, x in enumerate(a new list) -/
theorem s_forEN {tu : TS} {D : Ends} {xs : List V} (h : EvL tl σ H xs) (Pv : Hp → Nat → L2.St → Hp → Prop) (h0 : ∀ H1, Ex H H1 → Pv H1 0 σ H1) (hE : ∀ Hb i σ' H', Pv Hb i σ' H' → Ex Hb H')
    (hs : ∀ Hb i x T σ' H', Ex H Hb → xs[i]? = some x → Pv Hb i σ' H' → H' T = none → g (.ref T) σ' (upd H' T (.tup [.int (i : Nat), x])) fun σ2 H2 => tu { D with nx := Pv Hb (i + 1), ct := Pv Hb (i + 1), bk := D.nx } σ2 H2)
    (hd : ∀ Hb σ' H', Ex H Hb → Pv Hb xs.length σ' H' → D.nx σ' H') : tFor (iEnum K (tCons tl tNil)) g tu D σ H := by
  refine h H (Ex.refl _) _ fun a Hb h1 e1 h2 => ⟨a, xs, rfl, SqL.of h2, ?_⟩
  refine for_it (walk_enum (K := K) (a := a) (xs := xs)) (Pv Hb) (h0 Hb e1) (fun i σ' H' _ p => SqL.of (hE Hb i σ' H' p _ _ h2)) ?_ fun σ' H' p => hd Hb σ' H' e1 p
  rintro i v σ' H' H'' hi p ⟨T, x, y, rfl, hT, rfl, hx, hy⟩
  cases hx
  exact hs Hb i y T σ' H' e1 hy p hT
theorem cut_from (xs : List V) (p : Nat) : cutV xs (some (p : Int)) none = xs.drop p := by
  unfold cutV
  rw [HT.sIx_nat, HT.sIx_none]
  by_cases h : p ≤ xs.length
  · rw [Nat.min_eq_left h, ← List.length_drop, List.take_length]
  · rw [Nat.min_eq_right (by omega), List.drop_of_length_le (Nat.le_refl _), List.drop_of_length_le (by omega), List.take_nil]
theorem cut_to (xs : List V) (p : Nat) : cutV xs none (some (p : Int)) = xs.take p := by
  unfold cutV
  rw [HT.sIx_nat, HT.sIx_none, List.drop_zero, Nat.sub_zero, List.take_eq_take_iff]
  omega
/-- a slice of a new list -/
theorem el_slN {tl' th : TO} {xs : List V} {lo hi : Option Int} (h : EvL te σ H xs) (h1 : EvO tl' σ H lo) (h2 : EvO th σ H hi) : EvL (tSl (rSlL K) te tl' th) σ H (cutV xs lo hi) := by
  intro H1 e1 Q k
  refine h H1 e1 _ fun p H2 hp e2 hl => h1 H2 (e1.trans e2) _ fun H3 e3 => h2 H3 ((e1.trans e2).trans e3) _ fun H4 e4 => ⟨p, xs, rfl, SqL.of (e4 _ _ (e3 _ _ hl)), fun q hq => ?_⟩
  exact k q _ (fresh_back ((e2.trans e3).trans e4) hq) (((e2.trans e3).trans e4).trans (Ex.new hq)) upd_same
/-- xs.index(x) -/
theorem ev_index {ta tb : TE} {p : Addr} {o : List Int} {x : Int} {j : Nat} (ha : Ev ta σ H (.ref p)) (hb : Ev tb σ H (.int x)) (hs : SqL K H p (o.map V.int)) (hn : o.Nodup) (hj : o[j]? = some x) : Ev (tBM K "list" (rIndex K) ta (tCons tb tNil)) σ H (.int (j : Nat)) := by
  intro H1 e1 Q k
  refine ha H1 e1 _ fun H2 e2 => ⟨.inl ⟨rfl, _, ex_l (e1.trans e2) hs⟩, hb H2 (e1.trans e2) _ fun H3 e3 => ⟨p, o.map V.int, .int x, j, .int x, rfl, rfl, ex_l ((e1.trans e2).trans e3) hs, rfl, ?_, ?_, beq_self_eq_true x, ?_, k H3 (e2.trans e3)⟩⟩
  · rw [List.all_eq_true]
    intro v hv
    obtain ⟨n, _, rfl⟩ := List.mem_map.mp hv
    rfl
  · rw [List.getElem?_map, hj]
    rfl
  · intro m z' hm hz
    rw [List.getElem?_map] at hz
    cases hz' : o[m]? with
    | none => rw [hz'] at hz; cases hz
    | some y =>
      rw [hz'] at hz
      rw [← Option.some.inj hz]
      refine beq_eq_false_iff_ne.mpr fun e => ?_
      obtain ⟨h1, h2⟩ := List.getElem?_eq_some_iff.mp hz'
      obtain ⟨h3, h4⟩ := List.getElem?_eq_some_iff.mp hj
      have := (List.getElem_inj (h₀ := h1) (h₁ := h3) hn).mp (by rw [h2, h4]; exact e)
      omega
end
/-! ### calls of defs whose promise has another shape -/
section
variable {K : PySem.W.Frag} {σ : L2.St} {H : Hp} {ta : TA} {sp : Sp} {dvs vs : List V} {E : XK} {D : Ends} {tz t1 t2 : TS}
theorem seq (h : t1 { D with nx := t2 D } σ H) : tSeq t1 t2 D σ H := h
theorem s_retCall (h : EvA ta σ H vs) (k : ∀ H1, Ex H H1 → sp (vs ++ dvs) H1 D.rt E) : tRet (tCall sp dvs E ta) D σ H := h H (Ex.refl _) _ k
theorem q_asgCall {i : Nat} (h : EvA ta σ H vs) (k : ∀ H1, Ex H H1 → sp (vs ++ dvs) H1 (fun v H2 => tz D (σ.set i (some v)) H2) E) : tSeq (tAsg (tCall sp dvs E ta) (gName i)) tz D σ H := h H (Ex.refl _) _ k
end
end Lp

/-! ## V1 -/
set_option Elab.async false
set_option linter.all false
set_option maxRecDepth 100000
set_option maxHeartbeats 2000000
/-! The defs of lateids.values. -/
namespace Lp
open PySem PySem.Spec PyProof.Rows L2 Evl
section
variable {P : Program} {w : World} {K : PySem.W.Frag} {mg : Str → Option Value} {base : Heap}
/-! ### is_integer -/
def preInt : List V → Hp → V → Prop := fun vs H z => ∃ v l g, vs = [.int v, .int l, g] ∧ ((g = .non ∧ z = .bl (decide (l ≤ v))) ∨ ∃ u, g = .int u ∧ z = .bl (decide (l ≤ v) && decide (v ≤ u)))
theorem sc_is_integer : FnScope ["value", "least", "greatest"] ["value", "least", "greatest"] (defScope Lh.s_is_integer) := ⟨rfl, rfl, rfl, by decide +kernel, rfl, by decide +kernel, by decide +kernel⟩
theorem fn_is_integer (T : Facts K mg) {fd : FuncData} {dvs : List V} {kws : List (Str × V)} (F : FunD K "is_integer" "is_integer" (defArgs Lh.s_is_integer) (defBody Lh.s_is_integer) (defScope Lh.s_is_integer) dvs kws (He.ga K "is_integer") fd) :
    FnOk P w K mg base CX0 1 (He.ga K "is_integer") fd ["value", "least", "greatest"] (spV 3 preInt) := by
  refine go F sc_is_integer (spV_len rfl) fun cdv A outer s H vs Q E hr h => ?_
  obtain ⟨hn, z, ⟨v, l, g, rfl, hz⟩, k⟩ := h
  refine ⟨_, pss_cons (ps_if (PW.pt (pw_or (pt_not (pt_val (pe_callB call_isi rfl T.n_isinstance boot_isinstance (pa_cons (pv 0) (pa_cons (pe_ty T.n_int boot_int) pa_nil)))))
      (pw_or (pt_val (pe_callB call_isi rfl T.n_isinstance boot_isinstance (pa_cons (pv 0) (pa_cons (pe_ty T.n_bool boot_bool) pa_nil)))) (pw_or1 (pt_cmpR op_lt (pv 0) (pv 1) (nomark _))))))
    (pss_one (ps_ret pe_bl)) pss_nil) (pss_one (ps_ret (pe_or (pe_cmpR op_isN (pv 2) pe_non (nomark _)) (pe_one (pe_cmpR op_le (pv 0) (pv 2) (nomark _)))))), ?_⟩
  refine q_when (et_or (et_not (et_B (ev_isi (b := true) (ev_var rfl) (fun _ _ => ty_int) (by decide +kernel)))) fun _ => et_or (et_B (ev_isi (b := false) (ev_var rfl) (fun _ _ => ty_int) (by decide +kernel))) fun _ => et_test (ev_op (ev_var rfl) (ev_var rfl) rv_I0)) (fun hb H1 e => ?_) fun hb H1 e => ?_
  · have hlt : v < l := by simpa using hb
    refine s_ret ev_c fun H2 e2 => ?_
    have ez : z = .bl false := by
      rcases hz with ⟨_, hz⟩ | ⟨u, _, hz⟩
      · rw [hz, decide_eq_false (by omega)]
      · rw [hz, decide_eq_false (by omega), Bool.false_and]
    exact ez ▸ k H2 (e.trans e2)
  · have hle : l ≤ v := by simpa using hb
    rcases hz with ⟨rfl, hz⟩ | ⟨u, rfl, hz⟩
    · refine s_ret (ev_orV (a := true) (b := true) (ev_op (z := .bl true) (ev_var rfl) ev_c (rv_val fun H1 _ Q q => ⟨rfl, q⟩)) fun q => by cases q) fun H2 e2 => ?_
      rw [decide_eq_true hle] at hz
      exact hz ▸ k H2 (e.trans e2)
    · refine s_ret (ev_orV (a := false) (ev_op (z := .bl false) (ev_var rfl) ev_c (rv_val fun H1 _ Q q => ⟨rfl, q⟩)) fun _ => ev_op (ev_var rfl) (ev_var rfl) rv_I0) fun H2 e2 => ?_
      rw [decide_eq_true hle, Bool.true_and] at hz
      exact hz ▸ k H2 (e.trans e2)
theorem ok_is_integer3 (T : Facts K mg) : Def P w K mg base "is_integer" 1 ["value", "least", "greatest"] [] (spV 3 preInt) := by
  obtain ⟨fd, F⟩ := T.fn 0
  obtain ⟨ds, hd, hb⟩ := FunD.binds1 (ps := ["value", "least", "greatest"]) F 3 1 (List.cons_ne_nil _ _) rfl fun T kV doc pm an cdv ct us its hl hi => match us, its, hl, hi with | [_, _, _], [_], _, _ => ⟨_, rfl, rfl⟩
  exact ⟨⟨fd, ds, fn_is_integer T F, hb, hd⟩, T.glo 0, F.kp⟩
theorem ok_is_integer2 (T : Facts K mg) : Def P w K mg base "is_integer" 1 ["value", "least", "greatest"] [.non] (spV 3 preInt) := by
  obtain ⟨fd, F⟩ := T.fn 0
  obtain ⟨ds, hd, hb⟩ := FunD.binds1 (ps := ["value", "least", "greatest"]) F 2 0 (List.cons_ne_nil _ _) rfl fun T kV doc pm an cdv ct us its hl hi => match us, its, hl, hi with | [_, _], [_], _, _ => ⟨_, rfl, rfl⟩
  exact ⟨⟨fd, ds, fn_is_integer T F, hb, hd⟩, T.glo 0, F.kp⟩
/-! ### is_id, is_order -/
def preId : List V → Hp → V → Prop := fun vs H z => ∃ v, vs = [.int v] ∧ z = .bl (decide (1 ≤ v) && decide (v ≤ 10 ^ 30))
theorem sc_is_id : FnScope ["value"] ["value"] (defScope Lh.s_is_id) := ⟨rfl, rfl, rfl, by decide +kernel, rfl, by decide +kernel, by decide +kernel⟩
theorem ok_is_id (T : Facts K mg) : Def P w K mg base "is_id" 2 ["value"] [] (spV 1 preId) := by
  obtain ⟨fd, F⟩ := T.fn 1
  refine ⟨⟨fd, [], go F sc_is_id (spV_len rfl) fun cdv A outer s H vs Q E hr h => ?_, F.bindsN fun _ _ _ _ _ _ us hl => match us, hl with | [_], _ => rfl, .nil⟩, T.glo 1, F.kp⟩
  obtain ⟨hn, z, ⟨v, rfl, rfl⟩, k⟩ := h
  refine ⟨_, pss_one (ps_ret (pe_def (ok_is_integer3 T) hr (pa_cons (pv 0) (pa_cons pe_int (pa_cons (pe_gint T.c_GREATEST) pa_nil))))), ?_⟩
  exact s_ret (ev_spV (ea_cons (ev_var rfl) (ea_cons ev_c (ea_cons ev_c ea_nil))) rfl fun H1 e => ⟨v, 1, .int (10 ^ 30), rfl, .inr ⟨_, rfl, rfl⟩⟩) k
def preOrd (K : PySem.W.Frag) (z0 : V) : List V → Hp → V → Prop := fun vs H z => ∃ a o, vs = [.ref a] ∧ SqL K H a (o.map V.int) ∧ Lm.IsOrd o ∧ z = z0
theorem sc_is_order : FnScope ["value", "row"] ["value"] (defScope Lh.s_is_order) := ⟨rfl, rfl, rfl, by decide +kernel, rfl, by decide +kernel, by decide +kernel⟩
theorem ok_is_order (T : Facts K mg) : Def P w K mg base "is_order" 3 ["value"] [] (spV 1 (preOrd K (.bl true))) := by
  obtain ⟨fd, F⟩ := T.fn 2
  refine ⟨⟨fd, [], go F sc_is_order (spV_len rfl) fun cdv A outer s H vs Q E hr h => ?_, F.bindsN fun _ _ _ _ _ _ us hl => match us, hl with | [_], _ => rfl, .nil⟩, T.glo 2, F.kp⟩
  obtain ⟨hn, z, ⟨a, o, rfl, hs, ho, rfl⟩, k⟩ := h
  refine ⟨_, pss_cons (ps_if (PW.pt (pw_or (pt_not (pt_val (pe_callB call_isi rfl T.n_isinstance boot_isinstance (pa_cons (pv 0) (pa_cons (pe_ty T.n_list boot_list) pa_nil)))))
      (pw_or (pt_cmpR op_gt (pe_callB call_len_seq rfl T.n_len boot_len (pa_cons (pv 0) pa_nil)) (pe_gint T.c_MOST_IDS) (nomark _))
      (pw_or1 (pt_not (pt_val (pe_callB (cr_all rfl) rfl T.n_all boot_all (pa_cons (pe_lc (own := [("row", 1)]) (g := gName 1) (tt := tYes) rfl sc_is_order.nd (pi_list (pv 0))
        (blkOk_by (own := [("row", 1)]) (N := ["value", "row"]) (sc := defScope Lh.s_is_order) (by decide +kernel)) (fun _ _ _ _ _ => pg_name (i := 1) sc_is_order.nd rfl (Or.inl rfl)) (fun _ _ _ _ _ => pts_nil)
        (fun _ _ _ _ _ => pe_def (ok_is_id T) hr (pa_cons (pv 1) pa_nil))) pa_nil))))))))
    (pss_one (ps_ret pe_bl)) pss_nil) (pss_one (ps_ret (pe_cmpR op_eq (RZ.pe_lenSetI rfl T.n_len rfl T.n_set (pv 0)) (pe_callB call_len_seq rfl T.n_len boot_len (pa_cons (pv 0) pa_nil)) (nomark _)))), ?_⟩
  have hl30 : ((o.map V.int).length : Int) ≤ 30 := by
    have := ho.len
    rw [List.length_map]
    omega
  refine q_when (b := false) (et_is (et_or (et_not (et_B (ev_isi (b := true) (ev_var rfl) (fun H1 e => ty_lst (ex_l e hs)) (by decide +kernel)))) fun _ => et_or (et_test (ev_op (ev_len' (ev_var rfl) hs) ev_c rv_I0)) fun _ =>
      et_not (et_B (ev_all (bs := o.map fun v => decide (1 ≤ v) && decide (v ≤ 10 ^ 30)) (by
        rw [List.map_map]
        exact el_map _ (ev_var rfl) hs (by have := ho.len; omega) (fun x => rfl) fun x hx H1 e => ev_spV (ea_cons (ev_var rfl) ea_nil) rfl fun H2 e2 => ⟨x, rfl, rfl⟩)))) ?_) (fun hb => by cases hb) fun _ H1 e1 => ?_
  · have e1 : decide ((30 : Int) < ((o.map V.int).length : Int)) = false := decide_eq_false (by omega)
    have e2 : ((o.map fun v => decide (1 ≤ v) && decide (v ≤ 10 ^ 30)).all id) = true := by
      rw [List.all_eq_true]
      intro b hb
      obtain ⟨v, hv, rfl⟩ := List.mem_map.mp hb
      have h1 := ho.pos v hv
      have h2 := ho.big v hv
      show (decide (1 ≤ v) && decide (v ≤ 10 ^ 30)) = true
      rw [decide_eq_true h1, decide_eq_true h2]
      rfl
    rw [e1, e2]
    rfl
  · have hs1 := ex_l e1 hs
    have evs : Ev (RZ.tLenSetI K (tVar 0)) [some (.ref a), none] H1 (.int (o.length : Nat)) := fun H2 e2 Q k => ev_var (v := .ref a) rfl H2 e2 _ fun H3 e3 => ⟨a, o, rfl, ex_l (e2.trans e3) hs1, ho.nd, Nat.le_trans ho.len (by decide), k H3 e3⟩
    refine s_ret (ev_to (ev_op evs (ev_len' (ev_var rfl) hs1) (rv_eq rfl)) ?_) fun H2 e2 => k H2 (e1.trans e2)
    rw [List.length_map, decide_eq_true rfl]
/-! ### require_order, require_moment, require_id_of, require_polls -/
theorem sc_require_order : FnScope ["order"] ["order"] (defScope Lh.s_require_order) := ⟨rfl, rfl, rfl, by decide +kernel, rfl, by decide +kernel, by decide +kernel⟩
theorem ok_require_order (T : Facts K mg) : Def P w K mg base "require_order" 4 ["order"] [] (spV 1 (preOrd K .non)) := by
  obtain ⟨fd, F⟩ := T.fn 3
  refine ⟨⟨fd, [], go F sc_require_order (spV_len rfl) fun cdv A outer s H vs Q E hr h => ?_, F.bindsN fun _ _ _ _ _ _ us hl => match us, hl with | [_], _ => rfl, .nil⟩, T.glo 3, F.kp⟩
  obtain ⟨hn, z, ⟨a, o, rfl, hs, ho, rfl⟩, k⟩ := h
  refine ⟨_, pss_one (ps_if (pt_not (pt_val (pe_def (ok_is_order T) hr (pa_cons (pv 0) pa_nil)))) (pss_one ps_never) pss_nil), ?_⟩
  exact s_when (b := false) (et_not (et_B (ev_spV (z := .bl true) (ea_cons (ev_var rfl) ea_nil) rfl fun H1 e => ⟨a, o, rfl, ex_l e hs, ho, rfl⟩))) (fun hb => by cases hb) fun _ => k
def preMom (K : PySem.W.Frag) : List V → Hp → V → Prop := fun vs H z => ∃ a xs m, vs = [.ref a, .int m] ∧ SqL K H a xs ∧ 0 ≤ m ∧ m ≤ (xs.length : Int) ∧ z = .non
theorem sc_require_moment : FnScope ["order", "moment"] ["order", "moment"] (defScope Lh.s_require_moment) := ⟨rfl, rfl, rfl, by decide +kernel, rfl, by decide +kernel, by decide +kernel⟩
theorem ok_require_moment (T : Facts K mg) : Def P w K mg base "require_moment" 2 ["order", "moment"] [] (spV 2 (preMom K)) := by
  obtain ⟨fd, F⟩ := T.fn 4
  refine ⟨⟨fd, [], go F sc_require_moment (spV_len rfl) fun cdv A outer s H vs Q E hr h => ?_, F.bindsN fun _ _ _ _ _ _ us hl => match us, hl with | [_, _], _ => rfl, .nil⟩, T.glo 4, F.kp⟩
  obtain ⟨hn, z, ⟨a, xs, m, rfl, hs, h0, h1, rfl⟩, k⟩ := h
  refine ⟨_, pss_one (ps_if (pt_not (pt_val (pe_def (ok_is_integer3 T) hr (pa_cons (pv 1) (pa_cons pe_int (pa_cons (pe_callB call_len_seq rfl T.n_len boot_len (pa_cons (pv 0) pa_nil)) pa_nil)))))) (pss_one ps_never) pss_nil), ?_⟩
  refine s_when (b := false) (et_is (et_not (et_B (ev_spV (ea_cons (ev_var rfl) (ea_cons ev_c (ea_cons (ev_len' (ev_var rfl) hs) ea_nil))) rfl fun H1 e => ⟨m, 0, .int xs.length, rfl, .inr ⟨_, rfl, rfl⟩⟩))) ?_) (fun hb => by cases hb) fun _ => k
  rw [decide_eq_true h0, decide_eq_true h1]
  rfl
def preIdOf (K : PySem.W.Frag) : List V → Hp → V → Prop := fun vs H z => ∃ a o x, vs = [.ref a, .int x] ∧ SqL K H a (o.map V.int) ∧ Lm.IsOrd o ∧ x ∈ o ∧ z = .non
theorem flat_ints (o : List Int) : (o.map V.int).all flatV = true := by
  rw [List.all_eq_true]
  intro v hv
  obtain ⟨n, _, rfl⟩ := List.mem_map.mp hv
  rfl
theorem inV_int (x : Int) (o : List Int) : inV (.int x) (o.map V.int) = decide (x ∈ o) := by
  unfold inV
  rw [List.any_map]
  cases h : decide (x ∈ o) with
  | true =>
    rw [List.any_eq_true]
    exact ⟨x, of_decide_eq_true h, beq_self_eq_true x⟩
  | false =>
    rw [List.any_eq_false]
    intro y hy z
    have e : y = x := beq_iff_eq.mp z
    exact of_decide_eq_false h (e ▸ hy)
theorem sc_require_id_of : FnScope ["order", "row"] ["order", "row"] (defScope Lh.s_require_id_of) := ⟨rfl, rfl, rfl, by decide +kernel, rfl, by decide +kernel, by decide +kernel⟩
theorem ok_require_id_of (T : Facts K mg) : Def P w K mg base "require_id_of" 3 ["order", "row"] [] (spV 2 (preIdOf K)) := by
  obtain ⟨fd, F⟩ := T.fn 6
  refine ⟨⟨fd, [], go F sc_require_id_of (spV_len rfl) fun cdv A outer s H vs Q E hr h => ?_, F.bindsN fun _ _ _ _ _ _ us hl => match us, hl with | [_, _], _ => rfl, .nil⟩, T.glo 6, F.kp⟩
  obtain ⟨hn, z, ⟨a, o, x, rfl, hs, ho, hx, rfl⟩, k⟩ := h
  refine ⟨_, pss_one (ps_if (PW.pt (pw_or (pt_not (pt_val (pe_def (ok_is_id T) hr (pa_cons (pv 1) pa_nil)))) (pw_or1 (pt_cmpR op_notIn_seq (pv 1) (pv 0) rfl)))) (pss_one ps_never) pss_nil), ?_⟩
  refine s_when (b := false) (et_is (et_or (et_not (et_B (ev_spV (ea_cons (ev_var rfl) ea_nil) rfl fun H1 e => ⟨x, rfl, rfl⟩))) fun _ => et_test (ev_op (ev_var rfl) (ev_var rfl) (rv_niL hs rfl (flat_ints o)))) ?_) (fun hb => by cases hb) fun _ => k
  rw [decide_eq_true (ho.pos x hx), decide_eq_true (ho.big x hx), inV_int, decide_eq_true hx]
  rfl
def nums (ps : List Nat) : List V := ps.map fun (p : Nat) => V.int (p : Int)
theorem nums_len (ps : List Nat) : (nums ps).length = ps.length := by simp [nums]
def prePolls (K : PySem.W.Frag) : List V → Hp → V → Prop := fun vs H z => ∃ a b o ps, vs = [.ref a, .ref b] ∧ SqL K H a (o.map V.int) ∧ SqL K H b (nums ps) ∧ Lm.IsPolls o ps ∧ z = .non
theorem sc_require_polls : FnScope ["order", "polls", "before", "moment"] ["order", "polls"] (defScope Lh.s_require_polls) := ⟨rfl, rfl, rfl, by decide +kernel, rfl, by decide +kernel, by decide +kernel⟩
theorem ok_require_polls (T : Facts K mg) : Def P w K mg base "require_polls" 2 ["order", "polls"] [] (spV 2 (prePolls K)) := by
  obtain ⟨fd, F⟩ := T.fn 5
  refine ⟨⟨fd, [], go F sc_require_polls (spV_len rfl) fun cdv A outer s H vs Q E hr h => ?_, F.bindsN fun _ _ _ _ _ _ us hl => match us, hl with | [_, _], _ => rfl, .nil⟩, T.glo 5, F.kp⟩
  obtain ⟨hn, z, ⟨a, b, o, ps, rfl, hs, hb, hp, rfl⟩, k⟩ := h
  refine ⟨_, pss_cons (ps_if (PW.pt (pw_or (pt_not (pt_val (pe_callB call_isi rfl T.n_isinstance boot_isinstance (pa_cons (pv 1) (pa_cons (pe_ty T.n_list boot_list) pa_nil)))))
      (pw_or1 (pt_cmpR op_gt (pe_callB call_len_seq rfl T.n_len boot_len (pa_cons (pv 1) pa_nil)) (pe_gint T.c_MOST_POLLS) (nomark _))))) (pss_one ps_never) pss_nil)
    (pss_cons (ps_set (i := 2) sc_require_polls.nd rfl (Or.inl rfl) pe_int)
    (pss_one (ps_for PassesOwn.never rfl (pi_list (pv 1)) (pg_name (i := 3) sc_require_polls.nd rfl (Or.inl rfl))
      (pss_cons (ps_if (pt_not (pt_val (pe_def (ok_is_integer3 T) hr (pa_cons (pv 3) (pa_cons (pv 2) (pa_cons (pe_callB call_len_seq rfl T.n_len boot_len (pa_cons (pv 0) pa_nil)) pa_nil)))))) (pss_one ps_never) pss_nil)
        (pss_one (ps_set (i := 2) sc_require_polls.nd rfl (Or.inl rfl) (pv 3))))))), ?_⟩
  refine q_when (b := false) (et_is (et_or (et_not (et_B (ev_isi (b := true) (ev_var rfl) (fun H1 e => ty_lst (ex_l e hb)) (by decide +kernel)))) fun _ => et_test (ev_op (ev_len' (ev_var rfl) hb) ev_c rv_I0)) ?_) (fun hb => by cases hb) fun _ H1 e1 => ?_
  · have : ((nums ps).length : Int) ≤ 30 := by
      have := hp.len
      rw [nums_len]
      omega
    rw [decide_eq_false (show ¬ ((30 : Int) < ((nums ps).length : Int)) by omega)]
    rfl
  refine q_asg ev_c fun H2 e2 => ?_
  have e12 := e1.trans e2
  refine s_forLn (xs := nums ps) (ev_var rfl) (ex_l e12 hb) (fun i σ' H' => Ex H H' ∧ ∃ (c : Nat) (v : Option V), σ' = [some (.ref a), some (.ref b), some (.int (c : Int)), v] ∧ ∀ q, ps[i]? = some q → c ≤ q) ?_ (fun i σ' H' _ h => ex_l h.1 hb) ?_ fun σ' H' h => k H' h.1
  · intro H3 e3
    exact ⟨e12.trans e3, 0, none, rfl, fun q _ => Nat.zero_le _⟩
  · rintro i x σ' H' hi ⟨e, c, v, rfl, hc⟩
    obtain ⟨q, hq, rfl⟩ : ∃ q, ps[i]? = some q ∧ x = .int (q : Int) := by
      unfold nums at hi
      rw [List.getElem?_map] at hi
      cases h : ps[i]? with
      | none => rw [h] at hi; cases hi
      | some q => rw [h] at hi; exact ⟨q, rfl, (Option.some.inj hi).symm⟩
    have hcq := hc q hq
    have hqn := hp.le q (List.mem_of_getElem? hq)
    refine q_when (b := false) (et_is (et_not (et_B (ev_spV (ea_cons (ev_var rfl) (ea_cons (ev_var rfl) (ea_cons (ev_len' (ev_var rfl) (ex_l e hs)) ea_nil))) rfl fun H1 e => ⟨q, c, .int (o.map V.int).length, rfl, .inr ⟨_, rfl, rfl⟩⟩))) ?_) (fun hb => by cases hb) fun _ H3 e3 => ?_
    · rw [List.length_map, decide_eq_true (by omega), decide_eq_true (by omega)]
      rfl
    refine s_asg (ev_var rfl) fun H4 e4 => ⟨(e.trans e3).trans e4, q, _, rfl, fun q2 hq2 => ?_⟩
    have hi1 : i < ps.length := (List.getElem?_eq_some_iff.mp hq).1
    have hi2 : i + 1 < ps.length := (List.getElem?_eq_some_iff.mp hq2).1
    have r := List.pairwise_iff_getElem.mp hp.up i (i + 1) hi1 hi2 (by omega)
    rw [List.getElem?_eq_getElem hi1] at hq
    rw [List.getElem?_eq_getElem hi2] at hq2
    rw [← Option.some.inj hq, ← Option.some.inj hq2]
    exact r
end
end Lp

/-! ## V2 -/
set_option Elab.async false
set_option linter.all false
set_option maxRecDepth 100000
set_option maxHeartbeats 2000000
/-! is_name, require_name at the one name that the law polls by; the defs of lateids.moments. -/
namespace Lp
open PySem PySem.Spec PyProof.Rows L2 Evl
section
variable {P : Program} {w : World} {K : PySem.W.Frag} {mg : Str → Option Value} {base : Heap}
def preName (z0 : V) : List V → Hp → V → Prop := fun vs H z => vs = [.str "a"] ∧ z = z0
theorem sc_is_name : FnScope ["value", "letter"] ["value"] (defScope Lh.s_is_name) := ⟨rfl, rfl, rfl, by decide +kernel, rfl, by decide +kernel, by decide +kernel⟩
theorem ok_is_name (T : Facts K mg) : Def P w K mg base "is_name" 1 ["value"] [] (spV 1 (preName (.bl true))) := by
  obtain ⟨fd, F⟩ := T.fn 7
  refine ⟨⟨fd, [], go F sc_is_name (spV_len rfl) fun cdv A outer s H vs Q E hr h => ?_, F.bindsN fun _ _ _ _ _ _ us hl => match us, hl with | [_], _ => rfl, .nil⟩, T.glo 7, F.kp⟩
  obtain ⟨hn, z, ⟨rfl, rfl⟩, k⟩ := h
  refine ⟨_, pss_cons (ps_if (PW.pt (pw_or (pt_not (pt_val (pe_callB call_isi rfl T.n_isinstance boot_isinstance (pa_cons (pv 0) (pa_cons (pe_ty T.n_str boot_str) pa_nil)))))
      (pw_or1 (pt_not (pt_chain op_le op_le pe_int (pe_callB call_len rfl T.n_len boot_len (pa_cons (pv 0) pa_nil)) (pe_gint T.c_MOST_LETTERS))))))
    (pss_one (ps_ret pe_bl)) pss_nil) (pss_one (ps_ret (pe_callB (cr_all rfl) rfl T.n_all boot_all (pa_cons (pe_lc (own := [("letter", 1)]) (g := gName 1) (tt := tYes) rfl sc_is_name.nd (pi_str (pv 0))
        (blkOk_by (own := [("letter", 1)]) (N := ["value", "letter"]) (sc := defScope Lh.s_is_name) (by decide +kernel)) (fun _ _ _ _ _ => pg_name (i := 1) sc_is_name.nd rfl (Or.inl rfl)) (fun _ _ _ _ _ => pts_nil)
        (fun _ _ _ _ _ => pe_cmpR op_in_sign (pv 1) (pe_gstr T.c_LETTERS) rfl)) pa_nil)))), ?_⟩
  have hlen : ∀ {H : Hp}, Ev (tCB (fun xs H Q => ∃ x n, xs = [x] ∧ LenV K x H n ∧ Q (.int n) H) (tCons (tVar 0) tNil)) [some (.str "a"), none] H (.int ((1 : Nat) : Int)) := fun {H} => ev_cb (ea_cons (ev_var rfl) ea_nil) fun H1 e Q k => ⟨.str "a", 1, rfl, ⟨by show (1 : Nat) ≤ sizeLine; decide, by rfl⟩, k H1 (Ex.refl _)⟩
  refine q_when (b := false) (et_or (a := false) (b := false) (et_not (et_B (ev_isi (b := true) (ev_var rfl) (fun H1 e => ty_str) (by decide +kernel)))) fun _ => et_not (a := true) (et_test (ev_bl (ev_chain (x := .int 1) (z := .int 8) (b := true) (b' := true) ev_c hlen (rv_to rfl rv_I0) (fun _ => ev_c) (fun _ => rv_to rfl rv_I0)) rfl))) (fun hb => by cases hb) fun _ H1 e1 => ?_
  refine s_ret (ev_bl (ev_all (bs := [true]) ?_) rfl) fun H2 e2 => k H2 (e1.trans e2)
  refine el_lcStr (z := "a") (fun _ => some (.bl true)) (ev_var rfl) (by decide) (fun x => rfl) fun i c hc H2 e2 => ⟨fun z => by simp at z, fun v z => ?_⟩
  cases z
  refine ⟨fun H2 e2 Q k => k H2 (Ex.refl _), ?_⟩
  have hi0 : i = 0 := by
    have : i < 1 := (Array.getElem?_eq_some_iff.mp hc).1
    omega
  subst hi0
  have hc97 : c = 97 := by
    have q : some 97 = some c := hc
    exact (Option.some.inj q).symm
  subst hc97
  exact ev_op (ev_var rfl) ev_c (rv_val fun H1 _ Q q => ⟨97, "abcdefghijklmnopqrstuvwxyz", rfl, rfl, by rw [decide_eq_true (by decide +kernel)]; exact q⟩)
theorem sc_require_name : FnScope ["name"] ["name"] (defScope Lh.s_require_name) := ⟨rfl, rfl, rfl, by decide +kernel, rfl, by decide +kernel, by decide +kernel⟩
theorem ok_require_name (T : Facts K mg) : Def P w K mg base "require_name" 2 ["name"] [] (spV 1 (preName .non)) := by
  obtain ⟨fd, F⟩ := T.fn 8
  refine ⟨⟨fd, [], go F sc_require_name (spV_len rfl) fun cdv A outer s H vs Q E hr h => ?_, F.bindsN fun _ _ _ _ _ _ us hl => match us, hl with | [_], _ => rfl, .nil⟩, T.glo 8, F.kp⟩
  obtain ⟨hn, z, ⟨rfl, rfl⟩, k⟩ := h
  refine ⟨_, pss_one (ps_if (pt_not (pt_val (pe_def (ok_is_name T) hr (pa_cons (pv 0) pa_nil)))) (pss_one ps_never) pss_nil), ?_⟩
  exact s_when (b := false) (et_not (et_B (ev_spV (z := .bl true) (ea_cons (ev_var rfl) ea_nil) rfl fun H1 e => ⟨rfl, rfl⟩))) (fun hb => by cases hb) fun _ => k
end
end Lp

/-! ## V3 -/
set_option Elab.async false
set_option linter.all false
set_option maxRecDepth 100000
set_option maxHeartbeats 2000000
/-! The defs of lateids.moments. -/
namespace Lp
open PySem PySem.Spec PyProof.Rows L2 Evl
section
variable {P : Program} {w : World} {K : PySem.W.Frag} {mg : Str → Option Value} {base : Heap}
def preTops (K : PySem.W.Frag) : List V → Hp → List V → Prop := fun vs H xs => ∃ a o, vs = [.ref a] ∧ SqL K H a (o.map V.int) ∧ o.length ≤ 1000 ∧ xs = (Lm.tops o).map V.int
theorem sc_tops_in : FnScope ["order", "found", "row"] ["order"] (defScope Lh.s_tops_in) := ⟨rfl, rfl, rfl, by decide +kernel, rfl, by decide +kernel, by decide +kernel⟩
theorem ok_tops_in (T : Facts K mg) : Def P w K mg base "tops_in" 1 ["order"] [] (spL 1 (preTops K)) := by
  obtain ⟨fd, F⟩ := T.fn 9
  refine ⟨⟨fd, [], go F sc_tops_in (spL_len rfl) fun cdv A outer s H vs Q E hr h => ?_, F.bindsN fun _ _ _ _ _ _ us hl => match us, hl with | [_], _ => rfl, .nil⟩, T.glo 9, F.kp⟩
  obtain ⟨hn, z, ⟨a, o, rfl, hs, hl, rfl⟩, k⟩ := h
  refine ⟨_, pss_cons (ps_set (i := 1) sc_tops_in.nd rfl (Or.inl rfl) (pe_lst (pa_cons pe_int pa_nil)))
    (pss_cons (ps_for PassesOwn.never rfl (pi_list (pv 0)) (pg_name (i := 2) sc_tops_in.nd rfl (Or.inl rfl))
      (pss_one (ps_expr (pe_bm PySem.F.plainAttrs_list PySem.F.slot_list_append PySem.F.type_list_append mt_append (pv 1) (pa_cons (pe_callB (call_max2 rfl) rfl T.n_max boot_max
        (pa_cons (pe_ix ix_list (pv 1) (pe_un un_neg pe_int) (fun _ _ => rfl)) (pa_cons (pv 2) pa_nil))) pa_nil)))))
    (pss_one (ps_ret (pv 1)))), ?_⟩
  refine q_asgL (el_lst (ea_cons ev_c ea_nil) (by decide)) fun p H1 hp e1 h1 => ?_
  refine q_forLn (xs := o.map V.int) (ev_var rfl) (ex_l e1 hs) (fun i σ' H' => Ex H H' ∧ H' p = some (.lst (((List.range (i + 1)).map (Lm.topN o)).map V.int)) ∧ ∃ v, σ' = [some (.ref a), some (.ref p), v])
    (fun H2 e2 => ⟨e1.trans e2, e2 _ _ h1, none, rfl⟩) (fun i σ' H' _ h => ex_l h.1 hs) ?_ ?_
  · rintro i x σ' H' hi ⟨e, hpl, v, rfl⟩
    obtain ⟨n, hno, rfl⟩ : ∃ n, o[i]? = some n ∧ x = .int n := by
      rw [List.getElem?_map] at hi
      cases h : o[i]? with
      | none => rw [h] at hi; cases hi
      | some q => rw [h] at hi; exact ⟨q, rfl, (Option.some.inj hi).symm⟩
    have ei : ((List.range (i + 1)).map (Lm.topN o)).map V.int = ((List.range i).map (Lm.topN o)).map V.int ++ [.int (Lm.topN o i)] := by
      rw [List.range_succ, List.map_append, List.map_append]
      rfl
    have hil : i < o.length := (List.getElem?_eq_some_iff.mp hno).1
    refine s_app hpl (ev_var rfl) (ev_max2 (i := Lm.topN o i) (j := n) (ev_op (ev_var (v := .ref p) rfl) (ev_un ev_c ru_neg) (rv_ixL (SqL.of hpl) (by rw [ei]; exact atI_last _ _))) (ev_var rfl)) (by simp; omega) fun H2 e2 => ⟨Ex.mut (e.trans e2) hp, ?_, _, rfl⟩
    have ev : (if n > Lm.topN o i then n else Lm.topN o i) = Lm.topN o (i + 1) := by
      rw [Lm.topN_succ hno]
      split <;> omega
    rw [upd_same, ev, List.range_succ (n := i + 1), List.map_append (f := Lm.topN o), List.map_append (f := V.int)]
    rfl
  · rintro σ' H' ⟨e, hpl, v, rfl⟩
    refine s_ret (ev_var (v := .ref p) rfl) fun H2 e2 => k p H2 hp (e.trans e2) ?_
    rw [List.length_map] at hpl
    exact e2 _ _ hpl
/-! ### danger_in, danger_of -/
def spDanger (K : PySem.W.Frag) : Sp := fun vs H Q _ => ∃ a o x, vs = [.ref a, .int x] ∧ SqL K H a (o.map V.int) ∧ Lm.IsOrd o ∧ x ∈ o ∧ (Lm.IsDanger o x none → RetV .non H Q) ∧
  ∀ m k : Nat, Lm.IsDanger o x (some (m, k)) → ∀ p H', H p = none → Ex H H' → H' p = some (.tup [.int (m : Int), .int (k : Int)]) → Q (.ref p) H'
theorem sc_danger_in : FnScope ["order", "row", "place", "moment", "top"] ["order", "row"] (defScope Lh.s_danger_in) := ⟨rfl, rfl, rfl, by decide +kernel, rfl, by decide +kernel, by decide +kernel⟩
theorem spDanger_len : ∀ vs H Q E, spDanger K vs H Q E → vs.length = ["order", "row"].length := fun vs H Q E h => by
  obtain ⟨a, o, x, rfl, _⟩ := h
  rfl
theorem ok_danger_in (T : Facts K mg) : Def P w K mg base "danger_in" 2 ["order", "row"] [] (spDanger K) := by
  obtain ⟨fd, F⟩ := T.fn 10
  refine ⟨⟨fd, [], go F sc_danger_in spDanger_len fun cdv A outer s H vs Q E hr h => ?_, F.bindsN fun _ _ _ _ _ _ us hl => match us, hl with | [_, _], _ => rfl, .nil⟩, T.glo 10, F.kp⟩
  obtain ⟨a, o, x, rfl, hs, ho, hx, k0, k1⟩ := h
  refine ⟨_, pss_cons (ps_set (i := 2) sc_danger_in.nd rfl (Or.inl rfl) (pe_bm PySem.F.plainAttrs_list PySem.F.slot_list_index PySem.F.type_list_index mt_index (pv 0) (pa_cons (pv 1) pa_nil)))
    (pss_cons (ps_for PassesOwn.never rfl (pi_enum rfl T.n_enumerate (pa_cons (pe_slice sl_list (pe_def (ok_tops_in T) hr (pa_cons (pv 0) pa_nil)) po_none (po_some (pe_op op_add (pv 2) pe_int))) pa_nil))
        (pg_tup rfl (pgs_cons (pg_name (i := 3) sc_danger_in.nd rfl (Or.inl rfl)) (pgs_cons (pg_name (i := 4) sc_danger_in.nd rfl (Or.inl rfl)) pgs_nil)))
      (pss_one (ps_if (pt_cmpR op_gt (pv 4) (pv 1) (nomark _)) (pss_one (ps_ret (pe_tup (pa_cons (pv 3) (pa_cons (pv 2) pa_nil))))) pss_nil)))
    (pss_one (ps_ret pe_non))), ?_⟩
  obtain ⟨j, hj⟩ := List.getElem?_of_mem hx
  have hjl : j < o.length := (List.getElem?_eq_some_iff.mp hj).1
  refine q_asg (ev_index (ev_var rfl) (ev_var rfl) hs ho.nd hj) fun H1 e1 => ?_
  have hs1 := ex_l e1 hs
  have esl : cutV ((Lm.tops o).map V.int) none (some ((j : Int) + 1)) = (((List.range (j + 1)).map (Lm.topN o)).map V.int) := by
    rw [show ((j : Int) + 1) = ((j + 1 : Nat) : Int) by omega, cut_to]
    unfold Lm.tops
    rw [← List.map_take, ← List.map_take, List.take_range, Nat.min_eq_left (by omega)]
  refine seq (s_forEN (xs := ((List.range (j + 1)).map (Lm.topN o)).map V.int) ?_ (fun Hb i σ' H' => Ex Hb H' ∧ (∀ q, q < i → Lm.topN o q ≤ x) ∧ ∃ v3 v4, σ' = [some (.ref a), some (.int x), some (.int (j : Nat)), v3, v4])
    (fun H2 e2 => ⟨Ex.refl _, fun q hq => absurd hq (by omega), none, none, rfl⟩) (fun Hb i σ' H' h => h.1) ?_ ?_)
  · rw [← esl]
    exact el_slN (el_spL (ea_cons (ev_var rfl) ea_nil) rfl fun H2 e2 => ⟨a, o, rfl, ex_l e2 hs1, Nat.le_trans ho.len (by decide), rfl⟩) eo_none (eo_some (ev_op (ev_var rfl) ev_c rv_I0))
  · rintro Hb i y Tt σ' H' eb hi ⟨e, hq, v3, v4, rfl⟩ hT
    obtain ⟨hij, rfl⟩ : i ≤ j ∧ y = .int (Lm.topN o i) := by
      rw [List.getElem?_map, List.getElem?_map] at hi
      by_cases h : i < j + 1
      · rw [List.getElem?_range h] at hi
        exact ⟨by omega, (Option.some.inj hi).symm⟩
      · rw [List.getElem?_eq_none (by rw [List.length_range]; omega)] at hi
        cases hi
    have eT : Ex H (upd H' Tt (.tup [.int (i : Nat), .int (Lm.topN o i)])) := ((e1.trans eb).trans e).trans (Ex.new hT)
    refine g_pair upd_same ?_
    refine s_if (et_test (ev_op (ev_var rfl) (ev_var rfl) rv_I0)) (fun hb H2 e2 => ?_) fun hb H2 e2 => ?_
    · have hlt : x < Lm.topN o i := of_decide_eq_true hb
      refine s_retU (eu_tup (ea_cons (ev_var rfl) (ea_cons (ev_var rfl) ea_nil)) (by show 2 ≤ 100000; decide)) fun p H3 hp e3 h3 => ?_
      exact k1 i j ⟨hj, hij, hlt, hq⟩ p H3 (fresh_back (eT.trans e2) hp) ((eT.trans e2).trans e3) h3
    · have hle : Lm.topN o i ≤ x := by
        have := of_decide_eq_false hb
        omega
      refine ⟨(e.trans (Ex.new hT)).trans e2, fun q hq2 => ?_, _, _, rfl⟩
      by_cases h : q < i
      · exact hq q h
      · have : q = i := by omega
        rw [this]
        exact hle
  · rintro Hb σ' H' eb ⟨e, hq, v3, v4, rfl⟩
    rw [List.length_map, List.length_map, List.length_range] at hq
    show tRet (tC .non) { nx := fun _ H' => Q .non H', rt := Q } [some (.ref a), some (.int x), some (.int (j : Nat)), v3, v4] H'
    exact s_ret ev_c fun H2 e2 => k0 ⟨j, hj, fun q hq2 => hq q (by omega)⟩ H2 (((e1.trans eb).trans e).trans e2)
theorem sc_danger_of : FnScope ["order", "row"] ["order", "row"] (defScope Lh.s_danger_of) := ⟨rfl, rfl, rfl, by decide +kernel, rfl, by decide +kernel, by decide +kernel⟩
theorem ok_danger_of (T : Facts K mg) : Def P w K mg base "danger_of" 5 ["order", "row"] [] (spDanger K) := by
  obtain ⟨fd, F⟩ := T.fn 13
  refine ⟨⟨fd, [], go F sc_danger_of spDanger_len fun cdv A outer s H vs Q E hr h => ?_, F.bindsN fun _ _ _ _ _ _ us hl => match us, hl with | [_, _], _ => rfl, .nil⟩, T.glo 13, F.kp⟩
  obtain ⟨a, o, x, rfl, hs, ho, hx, k0, k1⟩ := h
  refine ⟨_, pss_cons (ps_expr (pe_def (ok_require_order T) hr (pa_cons (pv 0) pa_nil))) (pss_cons (ps_expr (pe_def (ok_require_id_of T) (hr.mono (by decide)) (pa_cons (pv 0) (pa_cons (pv 1) pa_nil))))
    (pss_one (ps_ret (pe_def (ok_danger_in T) (hr.mono (by decide)) (pa_cons (pv 0) (pa_cons (pv 1) pa_nil)))))), ?_⟩
  refine q_drop (ev_spV (z := .non) (ea_cons (ev_var rfl) ea_nil) rfl fun H1 e => ⟨a, o, rfl, ex_l e hs, ho, rfl⟩) fun H1 e1 => ?_
  refine q_drop (ev_spV (z := .non) (ea_cons (ev_var rfl) (ea_cons (ev_var rfl) ea_nil)) rfl fun H2 e => ⟨a, o, x, rfl, ex_l (e1.trans e) hs, ho, hx, rfl⟩) fun H2 e2 => ?_
  have e12 := e1.trans e2
  refine s_retCall (ea_cons (ev_var rfl) (ea_cons (ev_var rfl) ea_nil)) fun H3 e3 => ?_
  exact ⟨a, o, x, rfl, ex_l (e12.trans e3) hs, ho, hx, fun h H4 e4 => k0 h H4 ((e12.trans e3).trans e4), fun m k h p H4 hp e4 h4 => k1 m k h p H4 (fresh_back (e12.trans e3) hp) ((e12.trans e3).trans e4) h4⟩
/-! ### missed_at, missed_counts -/
def preMissed (K : PySem.W.Frag) : List V → Hp → List V → Prop := fun vs H xs => ∃ a o, ∃ p : Nat, vs = [.ref a, .int (p : Int)] ∧ SqL K H a (o.map V.int) ∧ Lm.IsOrd o ∧ p ≤ o.length ∧ xs = (Lm.missed o p).map V.int
theorem sc_missed_at : FnScope ["order", "moment", "top", "row"] ["order", "moment"] (defScope Lh.s_missed_at) := ⟨rfl, rfl, rfl, by decide +kernel, rfl, by decide +kernel, by decide +kernel⟩
theorem ok_missed_at (T : Facts K mg) : Def P w K mg base "missed_at" 5 ["order", "moment"] [] (spL 2 (preMissed K)) := by
  obtain ⟨fd, F⟩ := T.fn 11
  refine ⟨⟨fd, [], go F sc_missed_at (spL_len rfl) fun cdv A outer s H vs Q E hr h => ?_, F.bindsN fun _ _ _ _ _ _ us hl => match us, hl with | [_, _], _ => rfl, .nil⟩, T.glo 11, F.kp⟩
  obtain ⟨hn, z, ⟨a, o, p, rfl, hs, ho, hp, rfl⟩, k⟩ := h
  refine ⟨_, pss_cons (ps_expr (pe_def (ok_require_order T) hr (pa_cons (pv 0) pa_nil))) (pss_cons (ps_expr (pe_def (ok_require_moment T) (hr.mono (by decide)) (pa_cons (pv 0) (pa_cons (pv 1) pa_nil))))
    (pss_cons (ps_set (i := 2) sc_missed_at.nd rfl (Or.inr rfl) (pe_ix ix_list (pe_def (ok_tops_in T) (hr.mono (by decide)) (pa_cons (pv 0) pa_nil)) (pv 1) (fun _ _ => rfl)))
    (pss_one (ps_ret (pe_callB cr_sortedI rfl T.n_sorted boot_sorted (pa_cons (pe_lc (own := [("row", 3)]) (g := gName 3) rfl sc_missed_at.nd (pi_list (pe_slice sl_list (pv 0) (po_some (pv 1)) po_none))
        (blkOk_by (own := [("row", 3)]) (N := ["order", "moment", "top", "row"]) (sc := defScope Lh.s_missed_at) (by decide +kernel)) (fun _ _ _ _ _ => pg_name (i := 3) sc_missed_at.nd rfl (Or.inl rfl)) (fun _ _ _ _ _ => pts_one (pt_cmpR op_lt (pv 3) (pv 2) (nomark _)))
        (fun _ _ _ _ _ => pv 3)) pa_nil)))))), ?_⟩
  refine q_drop (ev_spV (z := .non) (ea_cons (ev_var rfl) ea_nil) rfl fun H1 e => ⟨a, o, rfl, ex_l e hs, ho, rfl⟩) fun H1 e1 => ?_
  refine q_drop (ev_spV (z := .non) (ea_cons (ev_var rfl) (ea_cons (ev_var rfl) ea_nil)) rfl fun H2 e => ⟨a, o.map V.int, p, rfl, ex_l (e1.trans e) hs, by omega, by rw [List.length_map]; omega, rfl⟩) fun H2 e2 => ?_
  have e12 := e1.trans e2
  have hs2 := ex_l e12 hs
  refine q_asg (v := .int (Lm.topN o p)) (ev_opL1 (el_spL (ea_cons (ev_var rfl) ea_nil) rfl fun H3 e => ⟨a, o, rfl, ex_l e hs2, Nat.le_trans ho.len (by decide), rfl⟩) (fun H3 e3 => ev_var (v := .int (p : Int)) rfl) fun q H3 h3 e3 => rv_ixL (SqL.of h3) (atI_nat (by rw [List.getElem?_map, Lm.tops_get hp]; rfl))) fun H3 e3 => ?_
  have e123 := e12.trans e3
  have hs3 := ex_l e123 hs
  refine s_retL (xs := (Lm.missed o p).map V.int) (el_sortedN (el_fltN (xs := o.drop p) (em := V.int) (fun x => decide (x < Lm.topN o p)) ?_ ?_ (fun x => rfl) (fun x => rfl) fun x hx H4 e4 => et_test (ev_op (ev_var rfl) (ev_var rfl) rv_I0))) fun q H4 hq e4 h4 => k q H4 (fresh_back e123 hq) (e123.trans e4) h4
  · rw [List.map_drop, ← cut_from]
    exact el_sl (ev_var rfl) (eo_some (ev_var rfl)) eo_none hs3
  · have := ho.len
    rw [List.length_drop]
    omega
def preCounts (K : PySem.W.Frag) : List V → Hp → List V → Prop := fun vs H xs => ∃ a o, vs = [.ref a] ∧ SqL K H a (o.map V.int) ∧ Lm.IsOrd o ∧ xs = (List.range (o.length + 1)).map fun q => V.int ((Lm.rk o (Lm.topN o q) : Int) - (q : Int))
theorem sc_missed_counts : FnScope ["order", "ranks", "rank", "row", "moment", "top"] ["order"] (defScope Lh.s_missed_counts) := ⟨rfl, rfl, rfl, by decide +kernel, rfl, by decide +kernel, by decide +kernel⟩
/-- the ranks by a dict -/
def rankKV (o : List Int) (i : Nat) : Key × V := (Sum.inl ((Lm.srt o).getD i 0), .int (1 + (i : Nat)))
theorem rankKV_new {o : List Int} (ho : o.Nodup) (i j : Nat) (hj : j < i) (hi : i < (Lm.srt o).length) : (rankKV o j).1 ≠ (rankKV o i).1 := by
  intro e
  have e2 : (Lm.srt o).getD j 0 = (Lm.srt o).getD i 0 := Sum.inl.inj e
  rw [List.getD_eq_getElem?_getD, List.getD_eq_getElem?_getD, List.getElem?_eq_getElem hi, List.getElem?_eq_getElem (Nat.lt_trans hj hi)] at e2
  have := (List.getElem_inj (h₀ := Nat.lt_trans hj hi) (h₁ := hi) (Lm.srt_nodup ho)).mp e2
  omega
theorem rank_get {o : List Int} (ho : Lm.IsOrd o) (q : Nat) : (valV ((List.range (Lm.srt o).length).map (rankKV o)) (Sum.inl (Lm.topN o q))).getD (.int 0) = .int (Lm.rk o (Lm.topN o q) : Int) := by
  rcases Lm.topN_mem o q with e | e
  · rw [e, Lm.rk_zero ho.pos, valV_none]
    · rfl
    · intro p hp
      obtain ⟨i, hi, rfl⟩ := List.mem_map.mp hp
      have hi := List.mem_range.mp hi
      intro z
      have e2 : (Lm.srt o).getD i 0 = 0 := Sum.inl.inj z
      rw [List.getD_eq_getElem?_getD, List.getElem?_eq_getElem hi] at e2
      have h1 := ho.pos _ (Lm.mem_srt.mp (List.getElem_mem hi))
      have e3 : (Lm.srt o)[i] = 0 := e2
      omega
  · have hm : Lm.topN o q ∈ Lm.srt o := Lm.mem_srt.mpr (List.mem_of_mem_take e)
    obtain ⟨i, hi⟩ := List.getElem?_of_mem hm
    have hil : i < (Lm.srt o).length := (List.getElem?_eq_some_iff.mp hi).1
    have hk : rankKV o i = (Sum.inl (Lm.topN o q), .int (Lm.rk o (Lm.topN o q) : Int)) := by
      unfold rankKV
      rw [List.getD_eq_getElem?_getD, hi, Lm.rk_at ho.nd hi]
      refine congrArg (Prod.mk _) (congrArg V.int ?_)
      omega
    have hnd : (((List.range (Lm.srt o).length).map (rankKV o)).map (·.1)).Nodup := by
      rw [List.nodup_iff_pairwise_ne, List.pairwise_map, List.pairwise_map]
      refine (List.pairwise_lt_range (n := (Lm.srt o).length)).imp_of_mem fun {a b} ha hb hab => ?_
      exact rankKV_new ho.nd b a hab (List.mem_range.mp hb)
    have := val_nodup hnd (rankKV o i) (List.mem_map.mpr ⟨i, List.mem_range.mpr hil, rfl⟩)
    rw [hk] at this
    rw [this]
    rfl
theorem ok_missed_counts (T : Facts K mg) : Def P w K mg base "missed_counts" 5 ["order"] [] (spL 1 (preCounts K)) := by
  obtain ⟨fd, F⟩ := T.fn 12
  refine ⟨⟨fd, [], go F sc_missed_counts (spL_len rfl) fun cdv A outer s H vs Q E hr h => ?_, F.bindsN fun _ _ _ _ _ _ us hl => match us, hl with | [_], _ => rfl, .nil⟩, T.glo 12, F.kp⟩
  obtain ⟨hn, z, ⟨a, o, rfl, hs, ho, rfl⟩, k⟩ := h
  have hu := hu_of hr
  refine ⟨_, pss_cons (ps_expr (pe_def (ok_require_order T) hr (pa_cons (pv 0) pa_nil)))
    (pss_cons (ps_set (i := 1) sc_missed_counts.nd rfl (Or.inr rfl) (pe_dc (own := [("rank", 2), ("row", 3)]) (g := gTup K 2 (gCons (gName 2) (gCons (gName 3) gNil))) (tt := tYes) rfl sc_missed_counts.nd
        (Kx.pi_enumS rfl T.n_enumerate (pa_cons (pe_callB cr_sortedI rfl T.n_sorted boot_sorted (pa_cons (pv 0) pa_nil)) (pa_cons pe_int pa_nil)))
        (blkOk_by (own := [("rank", 2), ("row", 3)]) (N := ["order", "ranks", "rank", "row", "moment", "top"]) (sc := defScope Lh.s_missed_counts) (by decide +kernel))
        (fun _ _ _ _ _ => pg_tup rfl (pgs_cons (pg_name (i := 2) sc_missed_counts.nd rfl (Or.inl rfl)) (pgs_cons (pg_name (i := 3) sc_missed_counts.nd rfl (Or.inl rfl)) pgs_nil))) (fun _ _ _ _ _ => pts_nil)
        (fun _ _ _ _ _ => pv 3) (fun _ _ _ _ _ => pv 2)))
    (pss_one (ps_ret (pe_lc (own := [("moment", 4), ("top", 5)]) (g := gTup K 2 (gCons (gName 4) (gCons (gName 5) gNil))) (tt := tYes) rfl sc_missed_counts.nd (pi_enum rfl T.n_enumerate (pa_cons (pe_def (ok_tops_in T) (hr.mono (by decide)) (pa_cons (pv 0) pa_nil)) pa_nil))
        (blkOk_by (own := [("moment", 4), ("top", 5)]) (N := ["order", "ranks", "rank", "row", "moment", "top"]) (sc := defScope Lh.s_missed_counts) (by decide +kernel))
        (fun _ _ _ _ _ => pg_tup rfl (pgs_cons (pg_name (i := 4) sc_missed_counts.nd rfl (Or.inl rfl)) (pgs_cons (pg_name (i := 5) sc_missed_counts.nd rfl (Or.inl rfl)) pgs_nil))) (fun _ _ _ _ _ => pts_nil)
        (fun _ _ _ _ _ => pe_op op_sub (pe_dget2 hu (pv 1) (pv 5) pe_int ⟨rfl, rfl, rfl, rfl⟩) (pv 4)))))), ?_⟩
  refine q_drop (ev_spV (z := .non) (ea_cons (ev_var rfl) ea_nil) rfl fun H1 e => ⟨a, o, rfl, ex_l e hs, ho, rfl⟩) fun H1 e1 => ?_
  have hs1 := ex_l e1 hs
  -- the ranks
  refine (el_sorted (ev_var (v := .ref a) (i := 0) rfl) hs1 : EvL _ [some (.ref a), none, none, none, none, none] H1 _) H1 (Ex.refl _) _ fun b H2 hb e2 h2 => ⟨b, _, 1, rfl, SqL.of h2, by decide, by decide, fun D hD => ?_⟩
  refine dc_pure (n := (Lm.srt o).length) (List.length_map V.int ▸ walk_enumS (K := K) (a := b) (xs := (Lm.srt o).map V.int) (k := 1)) (rankKV o) hD (fun H' e' => SqL.of (e' _ _ h2)) (by have := ho.len; rw [Lm.srt_len]; omega) (fun i j hj hi => rankKV_new ho.nd i j hj hi) ?_ fun H3 e3 h3 => ?_
  · rintro i v H' H'' hi e ⟨Tt, x, y, rfl, hT, rfl, hx, hy⟩
    cases hx
    have hy : ((Lm.srt o).map V.int)[i]? = some y := hy
    rw [List.getElem?_map, List.getElem?_eq_getElem hi] at hy
    have hy2 : V.int (Lm.srt o)[i] = y := Option.some.inj hy
    subst hy2
    refine ⟨Ex.new hT, [some (.ref a), none, some (.int (1 + (i : Nat))), some (.int (Lm.srt o)[i]), none, none], rfl, fun Q q => g_pair upd_same q, ev_to (ev_var rfl) ?_, ev_var rfl⟩
    show V.int (Lm.srt o)[i] = V.int ((Lm.srt o).getD i 0)
    rw [List.getD_eq_getElem?_getD, List.getElem?_eq_getElem hi]
    rfl
  -- the answer
  have e13 := (e1.trans e2).trans e3
  have hs3 := ex_l e13 hs
  refine (el_spL (ea_cons (ev_var (v := .ref a) (i := 0) rfl) ea_nil) rfl fun H4 e => ⟨a, o, rfl, ex_l e hs3, Nat.le_trans ho.len (by decide), rfl⟩ : EvL _ [some (.ref a), some (.ref D), none, none, none, none] H3 _) H3 (Ex.refl _) _ fun c H4 hc e4 h4 => ⟨c, _, rfl, SqL.of h4, fun D2 hD2 => ?_⟩
  refine lc_pure (n := (Lm.tops o).length) (List.length_map V.int ▸ walk_enum (K := K) (a := c) (xs := (Lm.tops o).map V.int)) (fun i => some (.int ((Lm.rk o (Lm.topN o i) : Int) - (i : Int)))) hD2 (fun H' e' => SqL.of (e' _ _ h4)) (by have := ho.len; rw [Lm.tops_len]; omega) ?_ fun H5 e5 h5 => ?_
  · rintro i v H' H'' hi e ⟨Tt, x, y, rfl, hT, rfl, hx, hy⟩
    cases hx
    have hy : ((Lm.tops o).map V.int)[i]? = some y := hy
    rw [List.getElem?_map, Lm.tops_get (by rw [Lm.tops_len] at hi; omega)] at hy
    have hy2 : V.int (Lm.topN o i) = y := Option.some.inj hy
    subst hy2
    refine ⟨Ex.new hT, [some (.ref a), some (.ref D), none, none, some (.int (i : Nat)), some (.int (Lm.topN o i))], rfl, fun Q q => g_pair upd_same q, fun z => by simp at z, fun v z => ?_⟩
    cases z
    refine ⟨fun H2 e2 Q k => k H2 (Ex.refl _), ?_⟩
    have hD3 : ∀ H6, Ex (upd H' Tt (.tup [.int (i : Nat), .int (Lm.topN o i)])) H6 → H6 D = some (.dK ((List.range (Lm.srt o).length).map (rankKV o))) := fun H6 e6 => e6 _ _ (Ex.new hT _ _ (e _ _ (e4 _ _ h3)))
    refine ev_op (x := .int (Lm.rk o (Lm.topN o i) : Int)) (fun H6 e6 Q k => ?_) (ev_var rfl) rv_I0
    refine ⟨.ref D, rfl, D, rfl, .inl ⟨_, .inl (hD3 H6 e6)⟩, .int (Lm.topN o i), rfl, _, DGet.k (k := Sum.inl (Lm.topN o i)) (hD3 H6 e6), ?_⟩
    rw [rank_get ho]
    exact k H6 (Ex.refl _)
  · refine k D2 H5 (fresh_back (e13.trans e4) hD2) ((e13.trans e4).trans e5) ?_
    rw [h5, Lm.tops_len, fm_map]
end
end Lp

/-! ## Ke2 -/
set_option Elab.async false
set_option linter.all false
set_option maxRecDepth 100000
set_option maxHeartbeats 2000000
/-! More of what expressions evaluate to: dicts, counts, sums of lists; lists of lists. -/
namespace Lp
open PySem PySem.Spec PyProof.Rows L2 Evl
section
variable {K : PySem.W.Frag} {σ : L2.St} {H H' : Hp} {ta tb tc te td tk tv tl : TE} {x y z v : V} {t : TT} {g : TG} {vs : List Nat}
theorem ev_count {bs : List Bool} {b : Bool} (ha : EvL ta σ H (bs.map V.bl)) (hb : ∀ H1, Ex H H1 → Ev tb σ H1 (.bl b)) : Ev (tBM K "list" (Kx.rCntB K) ta (tCons tb tNil)) σ H (.int (bs.count b : Nat)) := by
  intro H1 e1 Q k
  refine ha H1 e1 _ fun p H2 h1 e2 h2 => ⟨.inl ⟨rfl, _, SqL.of h2⟩, hb H2 (e1.trans e2) H2 (Ex.refl _) _ fun H3 e3 => ⟨p, bs, b, rfl, rfl, SqL.of (e3 _ _ h2), k H3 (e2.trans e3)⟩⟩
/-- a comprehension over an empty list -/
theorem el_lc0 {a : Addr} (h : Ev tl σ H (.ref a)) (hx : SqL K H a []) : EvL (tLc (iList K tl) g t te vs) σ H [] := by
  intro H1 e1 Q k
  refine h H1 e1 _ fun H2 e2 => ⟨a, rfl, ⟨_, ex_l (e1.trans e2) hx⟩, fun D hD => ?_⟩
  refine lc_pure (n := 0) (walk_list (K := K) (a := a) (xs := [])) (fun _ => none) hD (fun H' e' => ex_l ((e1.trans e2).trans e') hx) (Nat.zero_le _) (fun i x H' H'' hi => absurd hi (by omega)) fun H' e' h' => k D H' (fresh_back e2 hD) (e2.trans e') h'
theorem el_cat {p : Addr} {xs ys : List V} (ha : EvL ta σ H xs) (hb : Ev tb σ H (.ref p)) (hp : H p = some (.lst ys)) (hz : xs.length + ys.length ≤ 100000) : EvL (tOp rCat ta tb) σ H (xs ++ ys) := by
  intro H1 e1 Q k
  refine ha H1 e1 _ fun q H2 hq e2 h2 => hb H2 (e1.trans e2) _ fun H3 e3 => ⟨q, p, xs, ys, rfl, rfl, e3 _ _ h2, ((e1.trans e2).trans e3) _ _ hp, sz_of hz, fun r hr => ?_⟩
  exact k r _ (fresh_back (e2.trans e3) hr) ((e2.trans e3).trans (Ex.new hr)) upd_same
theorem el_catR {p : Addr} {xs ys : List V} (ha : Ev ta σ H (.ref p)) (hp : H p = some (.lst xs)) (hb : EvL tb σ H ys) (hz : xs.length + ys.length ≤ 100000) : EvL (tOp rCat ta tb) σ H (xs ++ ys) := by
  intro H1 e1 Q k
  refine ha H1 e1 _ fun H2 e2 => hb H2 (e1.trans e2) _ fun q H3 hq e3 h3 => ⟨p, q, xs, ys, rfl, rfl, ((e1.trans e2).trans e3) _ _ hp, h3, sz_of hz, fun r hr => ?_⟩
  exact k r _ (fresh_back (e2.trans e3) hr) ((e2.trans e3).trans (Ex.new hr)) upd_same
theorem el_catL {xs ys : List V} (ha : EvL ta σ H xs) (hb : EvL tb σ H ys) (hz : xs.length + ys.length ≤ 100000) : EvL (tOp rCat ta tb) σ H (xs ++ ys) := by
  intro H1 e1 Q k
  refine ha H1 e1 _ fun p H2 hp e2 h2 => hb H2 (e1.trans e2) _ fun q H3 hq e3 h3 => ⟨p, q, xs, ys, rfl, rfl, e3 _ _ h2, h3, sz_of hz, fun r hr => ?_⟩
  exact k r _ (fresh_back (e2.trans e3) hr) ((e2.trans e3).trans (Ex.new hr)) upd_same
/-! dicts -/
theorem ev_din {d : Addr} {kvs : List (Key × V)} {k : Key} {o : Option V} (hk : Ev tk σ H (kV k)) (hd : Ev td σ H (.ref d)) (h : H d = some (.dK kvs)) (ho : valV kvs k = o) : Ev (tDIn tk td) σ H (.bl o.isSome) := by
  intro H1 e1 Q q
  exact hk H1 e1 _ fun H2 e2 => hd H2 (e1.trans e2) _ fun H3 e3 => ⟨d, o, rfl, ho ▸ DGet.k (((e1.trans e2).trans e3) _ _ h), q H3 (e2.trans e3)⟩
theorem ev_dnotin {d : Addr} {kvs : List (Key × V)} {k : Key} {o : Option V} (hk : Ev tk σ H (kV k)) (hd : Ev td σ H (.ref d)) (h : H d = some (.dK kvs)) (ho : valV kvs k = o) : Ev (tDNotIn tk td) σ H (.bl (!o.isSome)) := by
  intro H1 e1 Q q
  exact hk H1 e1 _ fun H2 e2 => hd H2 (e1.trans e2) _ fun H3 e3 => ⟨d, o, rfl, ho ▸ DGet.k (((e1.trans e2).trans e3) _ _ h), q H3 (e2.trans e3)⟩
theorem ev_dget {d : Addr} {kvs : List (Key × V)} {k : Key} {v : V} (hd : Ev td σ H (.ref d)) (hk : Ev tk σ H (kV k)) (h : H d = some (.dK kvs)) (ho : valV kvs k = some v) : Ev (tDGet td tk) σ H v := by
  intro H1 e1 Q q
  exact hd H1 e1 _ fun H2 e2 => hk H2 (e1.trans e2) _ fun H3 e3 => ⟨d, v, rfl, ho ▸ DGet.k (((e1.trans e2).trans e3) _ _ h), q H3 (e2.trans e3)⟩
/-- list(d) -/
theorem el_listD {d : Addr} {kvs : List (Key × V)} (ha : Ev ta σ H (.ref d)) (h : H d = some (.dK kvs)) : EvL (tCB (fun xs H Q => ∃ (a : Addr) (kvs : List (Key × V)), xs = [.ref a] ∧ Rd H a (.dK kvs) ∧ ∀ p, H p = none → Q (.ref p) (upd H p (.lst (kvs.map fun kv => kV kv.1)))) (tCons ta tNil)) σ H (kvs.map fun kv => kV kv.1) := by
  intro H1 e1 Q q
  exact ha H1 e1 _ fun H2 e2 => ⟨d, kvs, rfl, .inl ((e1.trans e2) _ _ h), fun p hp => q p _ (fresh_back e2 hp) (e2.trans (Ex.new hp)) upd_same⟩
variable {D : Ends} {tz : TS}
/-- d[k] = v -/
theorem s_dput {d : Addr} {kvs : List (Key × V)} {k : Key} (hv : Ev tv σ H v) (hd : Ev td σ H (.ref d)) (hk : Ev tk σ H (kV k)) (h : H d = some (.dK kvs)) (hz : kvs.length < 100000) (q : ∀ H1, Ex H H1 → D.nx σ (upd H1 d (.dK (putK kvs k v)))) : sDPut td tk tv D σ H :=
  hv H (Ex.refl _) _ fun H1 e1 => hd H1 e1 _ fun H2 e2 => hk H2 (e1.trans e2) _ fun H3 e3 => ⟨d, _, rfl, DPut.k (((e1.trans e2).trans e3) _ _ h) (sz_lt hz), q H3 ((e1.trans e2).trans e3)⟩
end
theorem mergeK_new : ∀ (ls ks : List (Key × V)), (∀ p ∈ ls, ∀ q ∈ ks, q.1 ≠ p.1) → (ls.map (·.1)).Nodup → mergeK ks ls = ks ++ ls
  | [], ks, _, _ => by simp [mergeK]
  | p :: r, ks, h, hn => by
    rw [List.map_cons, List.nodup_cons] at hn
    have e : putK ks p.1 p.2 = ks ++ [p] := putK_new _ (valV_none fun q hq => h p (.head _) q hq)
    show mergeK (putK ks p.1 p.2) r = ks ++ p :: r
    rw [e, mergeK_new r (ks ++ [p]) ?_ hn.2, List.append_assoc]
    · rfl
    · intro p' hp' q hq
      rcases List.mem_append.mp hq with z | z
      · exact h p' (.tail _ hp') q z
      · rw [List.mem_singleton.mp z]
        intro e2
        exact hn.1 (e2 ▸ List.mem_map.mpr ⟨p', hp', rfl⟩)
/-- a dict of ints, all True -/
def trues (xs : List Int) : List (Key × V) := xs.map fun x => (Sum.inl x, .bl true)
theorem trues_get (xs : List Int) (x : Int) : (valV (trues xs) (Sum.inl x)).isSome = decide (x ∈ xs) := by
  rw [← valV_any]
  unfold trues
  rw [List.any_map]
  cases h : decide (x ∈ xs) with
  | true =>
    rw [List.any_eq_true]
    exact ⟨x, of_decide_eq_true h, decide_eq_true rfl⟩
  | false =>
    rw [List.any_eq_false]
    intro y hy z
    have e : (Sum.inl y : Key) = Sum.inl x := of_decide_eq_true z
    exact of_decide_eq_false h (Sum.inl.inj e ▸ hy)
theorem trues_keys (xs : List Int) : (trues xs).map (·.1) = xs.map Sum.inl := by
  unfold trues
  rw [List.map_map]
  rfl
theorem inl_nodup {xs : List Int} (h : xs.Nodup) : (xs.map (Sum.inl : Int → Key)).Nodup := by
  rw [List.nodup_iff_pairwise_ne, List.pairwise_map]
  exact (List.nodup_iff_pairwise_ne.mp h).imp fun h e => h (Sum.inl.inj e)
theorem trues_merge {xs ys : List Int} (h : (xs ++ ys).Nodup) : mergeK (trues xs) (trues ys) = trues (xs ++ ys) := by
  rw [List.nodup_append] at h
  rw [mergeK_new]
  · unfold trues
    rw [List.map_append]
  · intro p hp q hq e
    obtain ⟨y, hy, rfl⟩ := List.mem_map.mp hp
    obtain ⟨x, hx, rfl⟩ := List.mem_map.mp hq
    exact h.2.2 x hx y hy (Sum.inl.inj e)
  · rw [trues_keys]
    exact inl_nodup h.2.1
/-! ### lists of lists of ints -/
def Rows (H : Hp) (as : List Addr) (rss : List (List Int)) : Prop := Paired (fun a rs => H a = some (.lst (rs.map V.int))) as rss
def LL (H : Hp) (p : Addr) (rss : List (List Int)) : Prop := ∃ as : List Addr, H p = some (.lst (as.map V.ref)) ∧ Rows H as rss
theorem Rows.ex {H H' : Hp} {as : List Addr} {rss : List (List Int)} (e : Ex H H') (h : Rows H as rss) : Rows H' as rss := Paired.mapP h fun a rs q => e _ _ q
theorem LL.ex {H H' : Hp} {p : Addr} {rss : List (List Int)} (e : Ex H H') (h : LL H p rss) : LL H' p rss := by
  obtain ⟨as, h1, h2⟩ := h
  exact ⟨as, e _ _ h1, h2.ex e⟩
theorem Rows.snoc {H : Hp} : ∀ {as : List Addr} {rss : List (List Int)} {a : Addr} {rs : List Int}, Rows H as rss → H a = some (.lst (rs.map V.int)) → Rows H (as ++ [a]) (rss ++ [rs])
  | [], [], _, _, .nil, h => .cons h .nil
  | _ :: _, _ :: _, _, _, .cons h t, q => .cons h (Rows.snoc t q)
theorem Rows.len {H : Hp} {as : List Addr} {rss : List (List Int)} (h : Rows H as rss) : as.length = rss.length := Paired.length h
theorem Rows.get {H : Hp} : ∀ {as : List Addr} {rss : List (List Int)} {i : Nat} {a : Addr}, Rows H as rss → as[i]? = some a → ∃ rs, rss[i]? = some rs ∧ H a = some (.lst (rs.map V.int))
  | _, _, _, _, .nil, h => by simp at h
  | _, _, 0, _, .cons h t, q => by
    cases q
    exact ⟨_, rfl, h⟩
  | _, _, i + 1, _, .cons h t, q => by
    obtain ⟨rs, h1, h2⟩ := Rows.get (i := i) t (by simpa using q)
    exact ⟨rs, by simpa using h1, h2⟩
/-- something more is known -/
theorem ex_add {G H : Hp} {a : Addr} {o : HO} (e : Ex G H) (h : H a = some o) : Ex (upd G a o) H := fun b x q => by
  by_cases hb : b = a
  · rw [hb, upd_same] at q
    rw [hb, h, q]
  · rw [upd_ne hb] at q
    exact e _ _ q
end Lp

/-! ## V4 -/
set_option Elab.async false
set_option linter.all false
set_option maxRecDepth 100000
set_option maxHeartbeats 4000000
/-! The defs of lateids.readers, for plain readers: require_kind, require_reader, was_passed, lists_of. -/
namespace Lp
open PySem PySem.Spec PyProof.Rows L2 Evl
section
variable {P : Program} {w : World} {K : PySem.W.Frag} {mg : Str → Option Value} {base : Heap}
def preKind : List V → Hp → V → Prop := fun vs H z => vs = [.int 1, .int 0, .non] ∧ z = .non
theorem sc_require_kind : FnScope ["overlap", "wait", "page"] ["overlap", "wait", "page"] (defScope Lh.s_require_kind) := ⟨rfl, rfl, rfl, by decide +kernel, rfl, by decide +kernel, by decide +kernel⟩
theorem ok_require_kind (T : Facts K mg) : Def P w K mg base "require_kind" 2 ["overlap", "wait", "page"] [] (spV 3 preKind) := by
  obtain ⟨fd, F⟩ := T.fn 27
  refine ⟨⟨fd, [], go F sc_require_kind (spV_len rfl) fun cdv A outer s H vs Q E hr h => ?_, F.bindsN fun _ _ _ _ _ _ us hl => match us, hl with | [_, _, _], _ => rfl, .nil⟩, T.glo 14, F.kp⟩
  obtain ⟨hn, z, ⟨rfl, rfl⟩, k⟩ := h
  refine ⟨_, pss_cons (ps_if (PW.pt (pw_or (pt_not (pt_val (pe_def (ok_is_integer2 T) hr (pa_cons (pv 0) (pa_cons pe_int pa_nil))))) (pw_or (pt_not (pt_val (pe_def (ok_is_integer2 T) hr (pa_cons (pv 1) (pa_cons pe_int pa_nil)))))
      (pw_or1 (PW.pt (pw_and (pt_cmpR op_notN (pv 2) pe_non (nomark _)) (pw_and1 pt_no))))))) (pss_one ps_never) pss_nil)
    (pss_one (ps_if (pt_cmpR op_gt (pe_bm PySem.F.plainAttrs_list PySem.F.slot_list_count PySem.F.type_list_count Kx.mt_countB
      (pe_lst (pa_cons (pe_cmpR op_eq (pv 0) pe_int (nomark _)) (pa_cons (pe_cmpR op_eq (pv 1) pe_int (nomark _)) (pa_cons (pe_cmpR op_isN (pv 2) pe_non (nomark _)) pa_nil)))) (pa_cons pe_bl pa_nil)) pe_int (nomark _)) (pss_one ps_never) pss_nil)), ?_⟩
  refine q_when (b := false) (et_or (a := false) (b := false) (et_not (a := true) (et_B (ev_spV (ea_cons (ev_var rfl) (ea_cons ev_c ea_nil)) rfl fun H1 e => ⟨1, 1, .non, rfl, .inl ⟨rfl, rfl⟩⟩))) fun _ =>
      et_or (a := false) (b := false) (et_not (a := true) (et_B (ev_spV (ea_cons (ev_var rfl) (ea_cons ev_c ea_nil)) rfl fun H1 e => ⟨0, 0, .non, rfl, .inl ⟨rfl, rfl⟩⟩))) fun _ =>
      et_and (a := false) (b := false) (et_test (ev_op (z := .bl false) (ev_var rfl) ev_c (rv_val fun H1 _ Q q => ⟨rfl, q⟩))) fun h => by cases h) (fun hb => by cases hb) fun _ H1 e1 => ?_
  refine s_when (b := false) (et_is (et_test (ev_op (ev_count (bs := [true, true, true]) (b := false) (el_lst (ea_cons (ev_to (ev_op (ev_var rfl) ev_c (rv_eq rfl)) (by decide)) (ea_cons (ev_to (ev_op (ev_var rfl) ev_c (rv_eq rfl)) (by decide))
      (ea_cons (ev_op (z := .bl true) (ev_var rfl) ev_c (rv_val fun H1 _ Q q => ⟨rfl, q⟩)) ea_nil))) (by decide)) fun H1 e => ev_c) ev_c rv_I0)) (by decide)) (fun hb => by cases hb) fun _ H2 e2 => k H2 (e1.trans e2)
def preReader (K : PySem.W.Frag) : List V → Hp → V → Prop := fun vs H z => ∃ a b o ps, vs = [.ref a, .ref b, .int 1, .int 0, .non] ∧ SqL K H a (o.map V.int) ∧ SqL K H b (nums ps) ∧ Lm.IsOrd o ∧ Lm.IsPolls o ps ∧ z = .non
theorem sc_require_reader : FnScope ["order", "polls", "overlap", "wait", "page"] ["order", "polls", "overlap", "wait", "page"] (defScope Lh.s_require_reader) := ⟨rfl, rfl, rfl, by decide +kernel, rfl, by decide +kernel, by decide +kernel⟩
theorem ok_require_reader (T : Facts K mg) : Def P w K mg base "require_reader" 5 ["order", "polls", "overlap", "wait", "page"] [] (spV 5 (preReader K)) := by
  obtain ⟨fd, F⟩ := T.fn 28
  refine ⟨⟨fd, [], go F sc_require_reader (spV_len rfl) fun cdv A outer s H vs Q E hr h => ?_, F.bindsN fun _ _ _ _ _ _ us hl => match us, hl with | [_, _, _, _, _], _ => rfl, .nil⟩, T.glo 15, F.kp⟩
  obtain ⟨hn, z, ⟨a, b, o, ps, rfl, hs, hb, ho, hp, rfl⟩, k⟩ := h
  refine ⟨_, pss_cons (ps_expr (pe_def (ok_require_order T) hr (pa_cons (pv 0) pa_nil))) (pss_cons (ps_expr (pe_def (ok_require_polls T) (hr.mono (by decide)) (pa_cons (pv 0) (pa_cons (pv 1) pa_nil))))
    (pss_one (ps_expr (pe_def (ok_require_kind T) (hr.mono (by decide)) (pa_cons (pv 2) (pa_cons (pv 3) (pa_cons (pv 4) pa_nil))))))), ?_⟩
  refine q_drop (ev_spV (z := .non) (ea_cons (ev_var rfl) ea_nil) rfl fun H1 e => ⟨a, o, rfl, ex_l e hs, ho, rfl⟩) fun H1 e1 => ?_
  refine q_drop (ev_spV (z := .non) (ea_cons (ev_var rfl) (ea_cons (ev_var rfl) ea_nil)) rfl fun H2 e => ⟨a, b, o, ps, rfl, ex_l (e1.trans e) hs, ex_l (e1.trans e) hb, hp, rfl⟩) fun H2 e2 => ?_
  exact s_drop (ev_spV (z := .non) (ea_cons (ev_var rfl) (ea_cons (ev_var rfl) (ea_cons (ev_var rfl) ea_nil))) rfl fun H3 e => ⟨rfl, rfl⟩) fun H3 e3 => k H3 ((e1.trans e2).trans e3)
def prePassed (K : PySem.W.Frag) : List V → Hp → V → Prop := fun vs H z => ∃ x r, vs = [.int x, .ref r] ∧ SqL K H r [] ∧ z = .bl false
theorem sc_was_passed : FnScope ["row", "ranges", "low", "high"] ["row", "ranges"] (defScope Lh.s_was_passed) := ⟨rfl, rfl, rfl, by decide +kernel, rfl, by decide +kernel, by decide +kernel⟩
theorem ok_was_passed (T : Facts K mg) : Def P w K mg base "was_passed" 1 ["row", "ranges"] [] (spV 2 (prePassed K)) := by
  obtain ⟨fd, F⟩ := T.fn 29
  refine ⟨⟨fd, [], go F sc_was_passed (spV_len rfl) fun cdv A outer s H vs Q E hr h => ?_, F.bindsN fun _ _ _ _ _ _ us hl => match us, hl with | [_, _], _ => rfl, .nil⟩, T.glo 16, F.kp⟩
  obtain ⟨hn, z, ⟨x, r, rfl, hs, rfl⟩, k⟩ := h
  refine ⟨_, pss_one (ps_ret (pe_callB (cr_any rfl) rfl T.n_any boot_any (pa_cons (pe_lc (own := [("low", 2), ("high", 3)]) (g := gTup K 2 (gCons (gName 2) (gCons (gName 3) gNil))) (tt := tYes) (te := tNo) rfl sc_was_passed.nd (pi_list (pv 1))
    (blkOk_by (own := [("low", 2), ("high", 3)]) (N := ["row", "ranges", "low", "high"]) (sc := defScope Lh.s_was_passed) (by decide +kernel))
    (fun _ _ _ _ _ => pg_tup rfl (pgs_cons (pg_name (i := 2) sc_was_passed.nd rfl (Or.inl rfl)) (pgs_cons (pg_name (i := 3) sc_was_passed.nd rfl (Or.inl rfl)) pgs_nil))) (fun _ _ _ _ _ => pts_nil) (fun _ _ _ _ _ => pe_no)) pa_nil))), ?_⟩
  exact s_ret (ev_any (bs := []) (el_lc0 (ev_var rfl) hs)) k
/-! ### lists_of -/
/-- a new list of new lists comes back -/
def spLL (n : Nat) (pre : List V → Hp → List (List Int) → Prop) : Sp := fun vs H Q _ => vs.length = n ∧ ∃ rss, pre vs H rss ∧ ∀ p H', H p = none → Ex H H' → LL H' p rss → Q (.ref p) H'
theorem spLL_len {n : Nat} {pre : List V → Hp → List (List Int) → Prop} {ps : List Str} (h : ps.length = n) : ∀ vs H Q E, spLL n pre vs H Q E → vs.length = ps.length := fun vs H Q E q => q.1.trans h.symm
def preLists (K : PySem.W.Frag) : List V → Hp → List (List Int) → Prop := fun vs H rss => ∃ a b o ps, vs = [.ref a, .ref b, .int 1, .int 0, .non] ∧ SqL K H a (o.map V.int) ∧ SqL K H b (nums ps) ∧ Lm.IsOrd o ∧ Lm.IsPolls o ps ∧ rss = Lm.rd o 0 ps
def nmLists : List Str := ["order", "polls", "overlap", "wait", "page", "found", "returned", "ranges", "cursor", "moment", "recent", "rows", "row"]
theorem sc_lists_of : FnScope nmLists ["order", "polls", "overlap", "wait", "page"] (defScope Lh.s_lists_of) := ⟨rfl, rfl, rfl, by decide +kernel, rfl, by decide +kernel, by decide +kernel⟩
/-- the slots -/
abbrev slLists (a b pF pR pG : Addr) (c : Int) (v9 v10 v11 v12 : Option V) : L2.St := [some (.ref a), some (.ref b), some (.int 1), some (.int 0), some .non, some (.ref pF), some (.ref pR), some (.ref pG), some (.int c), v9, v10, v11, v12]
/-- ahead of a poll: G is what is known and stays -/
structure LoopL (H : Hp) (o : List Int) (ps : List Nat) (pF pR pG : Addr) (i : Nat) (G H' : Hp) : Prop where
  e0 : Ex H G
  e : Ex G H'
  nF : G pF = none
  nR : G pR = none
  nG : G pG = none
  fr : pF ≠ pR
  fg : pF ≠ pG
  rg : pR ≠ pG
  F : ∃ as, H' pF = some (.lst (as.map V.ref)) ∧ Rows G as (Lm.rd o 0 (ps.take i))
  R : H' pR = some (.dK (trues (Lm.rd o 0 (ps.take i)).flatten))
  Gs : ∃ gs, H' pG = some (.lst gs) ∧ gs.length = i
theorem nums_get {ps : List Nat} {i : Nat} {x : V} (h : (nums ps)[i]? = some x) : ∃ p, ps[i]? = some p ∧ x = .int (p : Int) := by
  unfold nums at h
  rw [List.getElem?_map] at h
  cases e : ps[i]? with
  | none => rw [e] at h; cases h
  | some p => rw [e] at h; exact ⟨p, rfl, (Option.some.inj h).symm⟩
theorem ints_get {o : List Int} {i : Nat} {x : V} (h : (o.map V.int)[i]? = some x) : ∃ n, o[i]? = some n ∧ x = .int n := by
  rw [List.getElem?_map] at h
  cases e : o[i]? with
  | none => rw [e] at h; cases h
  | some p => rw [e] at h; exact ⟨p, rfl, (Option.some.inj h).symm⟩
theorem el_to {σ : L2.St} {H : Hp} {te : TE} {xs ys : List V} (h : EvL te σ H xs) (e : xs = ys) : EvL te σ H ys := e ▸ h
/-- d.update({x: True for x in xs}) -/
theorem q_dupd {σ : L2.St} {H : Hp} {D : Ends} {tz : TS} {d b : Addr} {R rs : List Int} {i j l : Nat} {vs : List Nat} (hd : σ[i]? = some (some (.ref d))) (hb : σ[j]? = some (some (.ref b))) (h : H d = some (.dK (trues R))) (hr : H b = some (.lst (rs.map V.int)))
    (hn : (R ++ rs).Nodup) (hz : R.length + rs.length ≤ 100000) (hw : ∀ x, wipe ((wipe σ vs).set l (some x)) vs = wipe σ vs) (hl : ∀ x, ((wipe σ vs).set l (some x))[l]? = some (some x))
    (k : ∀ H1, Ex H H1 → tz D σ (upd H1 d (.dK (trues (R ++ rs))))) :
    tSeq (tDrop (tBM K "dict" Kx.rDUpd (tVar i) (tCons (tDc (iList K (tVar j)) (gName l) tYes (tVar l) (tC (.bl true)) vs) tNil))) tz D σ H := by
  refine ⟨.ref d, hd, .inr (.inr (.inl ⟨rfl, .inl ⟨_, h⟩⟩)), .ref b, hb, b, rfl, ⟨_, SqL.of hr⟩, fun Dn hD => ?_⟩
  refine dc_pure (n := rs.length) (List.length_map V.int ▸ walk_list (K := K) (a := b) (xs := rs.map V.int)) (fun i => (Sum.inl (rs.getD i 0), .bl true)) hD (fun H' e' => SqL.of (e' _ _ hr)) (by omega) ?_ ?_ fun H3 e3 h3 => ?_
  · intro i j hji hi e
    have e2 : rs.getD j 0 = rs.getD i 0 := Sum.inl.inj e
    rw [List.getD_eq_getElem?_getD, List.getD_eq_getElem?_getD, List.getElem?_eq_getElem hi, List.getElem?_eq_getElem (Nat.lt_trans hji hi)] at e2
    have := (List.getElem_inj (h₀ := Nat.lt_trans hji hi) (h₁ := hi) (List.nodup_append.mp hn).2.1).mp e2
    omega
  · rintro i x H' H'' hi e' ⟨rfl, hy⟩
    obtain ⟨n, hn2, rfl⟩ := ints_get hy
    refine ⟨Ex.refl _, _, hw _, fun Q q => q, ev_to (ev_var (hl _)) ?_, ev_c⟩
    show V.int n = V.int (rs.getD i 0)
    rw [List.getD_eq_getElem?_getD, hn2]
    rfl
  · have et : (List.range rs.length).map (fun i => ((Sum.inl (rs.getD i 0), .bl true) : Key × V)) = trues rs := by
      refine List.ext_getElem? fun i => ?_
      unfold trues
      rw [List.getElem?_map, List.getElem?_map]
      by_cases h : i < rs.length
      · rw [List.getElem?_range h, List.getElem?_eq_getElem h]
        show some ((Sum.inl (rs.getD i 0), V.bl true) : Key × V) = some (Sum.inl rs[i], V.bl true)
        rw [List.getD_eq_getElem?_getD, List.getElem?_eq_getElem h]
        rfl
      · rw [List.getElem?_eq_none (by rw [List.length_range]; omega), List.getElem?_eq_none (by omega)]
        rfl
    rw [et] at h3
    have hd3 : H3 d = some (.dK (trues R)) := e3 _ _ h
    refine ⟨d, Dn, trues R, trues rs, rfl, rfl, hd3, h3, ?_, ?_, ?_⟩
    · exact ne_of_none h hD
    · unfold trues
      rw [List.length_map, List.length_map]
      exact sz_of hz
    · rw [trues_merge hn]
      exact k H3 e3
theorem ok_lists_of (T : Facts K mg) : Def P w K mg base "lists_of" 2 ["order", "polls", "overlap", "wait", "page"] [] (spLL 5 (preLists K)) := by
  obtain ⟨fd, F⟩ := T.fn 30
  refine ⟨⟨fd, [], go F sc_lists_of (spLL_len rfl) fun cdv A outer s H vs Q E hr h => ?_, F.bindsN fun _ _ _ _ _ _ us hl => match us, hl with | [_, _, _, _, _], _ => rfl, .nil⟩, T.glo 17, F.kp⟩
  obtain ⟨hn, z, ⟨a, b, o, ps, rfl, hs, hb, ho, hp, rfl⟩, k⟩ := h
  have hu := hu_of hr
  have nd := sc_lists_of.nd
  refine ⟨_, pss_cons (ps_asg (pe_tup (pa_cons (pe_lst pa_nil) (pa_cons pe_dnewK (pa_cons (pe_lst pa_nil) (pa_cons pe_int pa_nil)))))
      (pg_tup rfl (pgs_cons (pg_name (i := 5) nd rfl (Or.inl rfl)) (pgs_cons (pg_name (i := 6) nd rfl (Or.inl rfl)) (pgs_cons (pg_name (i := 7) nd rfl (Or.inl rfl)) (pgs_cons (pg_name (i := 8) nd rfl (Or.inl rfl)) pgs_nil))))))
    (pss_cons (ps_for PassesOwn.never rfl (pi_list (pv 1)) (pg_name (i := 9) nd rfl (Or.inl rfl))
      (pss_cons (ps_set (i := 10) nd rfl (Or.inl rfl) (pe_slice sl_list (pv 7) (po_some (pe_callB (call_max2 rfl) rfl T.n_max boot_max (pa_cons pe_int (pa_cons (pe_op op_sub (pe_callB call_len_seq rfl T.n_len boot_len (pa_cons (pv 7) pa_nil)) (pv 3)) pa_nil)))) po_none))
      (pss_cons (ps_set (i := 11) nd rfl (Or.inl rfl) (pe_lst pa_nil))
      (pss_cons (ps_for PassesOwn.never rfl (pi_list (pe_callB cr_sortedI rfl T.n_sorted boot_sorted (pa_cons (pe_slice sl_list (pv 0) po_none (po_some (pv 9))) pa_nil))) (pg_name (i := 12) nd rfl (Or.inl rfl))
        (pss_one (ps_if (PW.pt (pw_and (pt_cmp (pc_dnotin hu (pv 12) (pv 6)) rfl) (pw_and1 (PW.pt (pw_or (pt_cmpR op_gt (pv 12) (pe_op op_sub (pv 8) (pv 2)) (nomark _)) (pw_or1 (pt_val (pe_def (ok_was_passed T) hr (pa_cons (pv 12) (pa_cons (pv 10) pa_nil))))))))))
          (pss_one (ps_expr (pe_bm PySem.F.plainAttrs_list PySem.F.slot_list_append PySem.F.type_list_append mt_append (pv 11) (pa_cons (pv 12) pa_nil)))) pss_nil)))
      (pss_cons (ps_if (pt_cmpR op_notN (pv 4) pe_non (nomark _)) (pss_one ps_never) pss_nil)
      (pss_cons (ps_expr (pe_bm PySem.F.plainAttrs_dict PySem.F.slot_dict_update PySem.F.type_dict_update Kx.mt_dupdate (pv 6) (pa_cons (pe_dc (own := [("row", 12)]) (g := gName 12) (tt := tYes) rfl nd (pi_list (pv 11))
          (blkOk_by (own := [("row", 12)]) (N := nmLists) (sc := defScope Lh.s_lists_of) (by decide +kernel)) (fun _ _ _ _ _ => pg_name (i := 12) nd rfl (Or.inl rfl)) (fun _ _ _ _ _ => pts_nil) (fun _ _ _ _ _ => pv 12) (fun _ _ _ _ _ => pe_bl)) pa_nil)))
      (pss_cons (ps_expr (pe_bm PySem.F.plainAttrs_list PySem.F.slot_list_append PySem.F.type_list_append mt_append (pv 7) (pa_cons (pe_tup (pa_cons (pv 8)
          (pa_cons (pe_callB (cr_max rfl) rfl T.n_max boot_max (pa_cons (pe_op op_cat (pe_lst (pa_cons (pv 8) pa_nil)) (pv 11)) pa_nil)) pa_nil))) pa_nil)))
      (pss_cons (ps_set (i := 8) nd rfl (Or.inl rfl) (pe_ix ix_tup (pe_ix ix_list (pv 7) (pe_un un_neg pe_int) (fun _ _ => rfl)) pe_int (fun _ _ => rfl)))
      (pss_one (ps_expr (pe_bm PySem.F.plainAttrs_list PySem.F.slot_list_append PySem.F.type_list_append mt_append (pv 5) (pa_cons (pv 11) pa_nil))))))))))))
    (pss_one (ps_ret (pv 5)))), ?_⟩
  -- found, returned, ranges, cursor
  refine ⟨Nat.zero_le _, fun pF hF => fun pR hR => ⟨Nat.zero_le _, fun pG hG => ⟨by show 4 ≤ sizeLine; decide, fun pT hT => ⟨pT, _, rfl, SqT.of upd_same, rfl, _, _, rfl, _, _, rfl, _, _, rfl, _, _, rfl, rfl, ?_⟩⟩⟩⟩
  have hFR : pF ≠ pR := fun e => by rw [← e, upd_same] at hR; cases hR
  have hFG : pF ≠ pG := fun e => by rw [← e, upd_ne hFR, upd_same] at hG; cases hG
  have hRG : pR ≠ pG := fun e => by rw [← e, upd_same] at hG; cases hG
  have hFT : pF ≠ pT := fun e => by rw [← e, upd_ne hFG, upd_ne hFR, upd_same] at hT; cases hT
  have hRT : pR ≠ pT := fun e => by rw [← e, upd_ne hRG, upd_same] at hT; cases hT
  have hGT : pG ≠ pT := fun e => by rw [← e, upd_same] at hT; cases hT
  have hR0 : H pR = none := by rw [upd_ne hFR.symm] at hR; exact hR
  have hG0 : H pG = none := by rw [upd_ne hRG.symm, upd_ne hFG.symm] at hG; exact hG
  have hT0 : H pT = none := by rw [upd_ne hGT.symm, upd_ne hRT.symm, upd_ne hFT.symm] at hT; exact hT
  have ee : Ex H (upd (upd (upd (upd H pF (.lst [])) pR (.dK [])) pG (.lst [])) pT (.tup [.ref pF, .ref pR, .ref pG, .int 0])) := Ex.mut (Ex.mut (Ex.mut (Ex.mut (Ex.refl _) hF) hR0) hG0) hT0
  refine q_forLn (xs := nums ps) (ev_var (v := .ref b) rfl) (ex_l ee hb) (fun i σ' H' => ∃ G, LoopL H o ps pF pR pG i G H' ∧ ∃ v9 v10 v11 v12, σ' = slLists a b pF pR pG (Lm.cur o 0 (ps.take i)) v9 v10 v11 v12) ?_ (fun i σ' H' _ ⟨G, L, _⟩ => ex_l (L.e0.trans L.e) hb) ?_ ?_
  · intro H1 e1
    refine ⟨H, ⟨Ex.refl _, ee.trans e1, hF, hR0, hG0, hFR, hFG, hRG, ⟨[], e1 _ _ (by rw [upd_ne hFT, upd_ne hFG, upd_ne hFR, upd_same]; rfl), .nil⟩, e1 _ _ (by rw [upd_ne hRT, upd_ne hRG, upd_same]; rfl), [], e1 _ _ (by rw [upd_ne hGT, upd_same]), rfl⟩, none, none, none, none, rfl⟩
  · rintro i x σ' H' hi ⟨G, L, v9, v10, v11, v12, rfl⟩
    obtain ⟨p, hpi, rfl⟩ := nums_get hi
    obtain ⟨as, hFa, hRows⟩ := L.F
    obtain ⟨gs, hGs, hgl⟩ := L.Gs
    have hRd := L.R
    generalize hc : Lm.cur o 0 (ps.take i) = c
    have hpn := hp.le p (List.mem_of_getElem? hpi)
    have hi30 : i < 30 := Nat.lt_of_lt_of_le (List.getElem?_eq_some_iff.mp hpi).1 hp.len
    have hs' := ex_l (L.e0.trans L.e) hs
    have hrl := Lm.rows_len o c p
    have ho30 := ho.len
    have hRl := Lm.rd_flat_len ho.nd (ps.take i) 0
    -- recent
    refine q_asgL (xs := []) ?_ fun pC H1 hC e1 h1 => ?_
    · refine el_to (xs := cutV gs (some ((i : Nat) : Int)) none) ?_ (by rw [cut_from, List.drop_of_length_le (by omega)])
      refine el_sl (ev_var (v := .ref pG) rfl) (eo_some (ev_to (ev_max2 ev_c (ev_op (ev_len' (ev_var rfl) (SqL.of hGs)) (ev_var rfl) rv_I0)) ?_)) eo_none (SqL.of hGs)
      rw [hgl]
      split <;> congr 1 <;> omega
    -- rows
    refine q_asgL (el_lst ea_nil (by decide)) fun pW H2 hW e2 h2 => ?_
    have hWF : pF ≠ pW := ne_of_none (e1 _ _ hFa) hW
    have hWR : pR ≠ pW := ne_of_none (e1 _ _ hRd) hW
    have hWG : pG ≠ pW := ne_of_none (e1 _ _ hGs) hW
    have hW0 : G pW = none := fresh_back (L.e.trans e1) hW
    refine q_forNLn (xs := (Lm.srt (o.take p)).map V.int) ?_ (fun pS j σ' H'' => pS ≠ pW ∧ H'' pS = some (.lst ((Lm.srt (o.take p)).map V.int)) ∧ Ex H1 H'' ∧ H'' pW = some (.lst ((((Lm.srt (o.take p)).take j).filter fun x => decide (c < x)).map V.int)) ∧
      ∃ v12, σ' = slLists a b pF pR pG c (some (.int (p : Int))) (some (.ref pC)) (some (.ref pW)) v12) ?_ (fun pS j σ' H'' _ h => SqL.of h.2.1) ?_ ?_
    · refine el_sortedN ?_
      rw [List.map_take, ← cut_to]
      exact el_sl (ev_var (v := .ref a) rfl) eo_none (eo_some (ev_var rfl)) (ex_l (e1.trans e2) hs')
    · intro pS H3 hS e3 h3
      exact ⟨(fun e => by rw [e, h2] at hS; cases hS), h3, e2.trans e3, e3 _ _ h2, _, rfl⟩
    · rintro pS j x σ' H'' hj ⟨nSW, hS, e, hWl, v, rfl⟩
      obtain ⟨n, hnj, rfl⟩ := ints_get hj
      have hno : n ∈ o := List.mem_of_mem_take (Lm.mem_srt.mp (List.mem_of_getElem? hnj))
      have htk : (Lm.srt (o.take p)).take (j + 1) = (Lm.srt (o.take p)).take j ++ [n] := by
        rw [List.take_add_one, hnj]
        rfl
      refine s_when (b := decide (c < n)) (et_is (et_and (et_B (ev_dnotin (k := Sum.inl n) (ev_var rfl) (ev_var rfl) ((e1.trans e) _ _ hRd) rfl)) fun _ => et_or (et_test (ev_op (ev_var rfl) (ev_op (ev_var rfl) (ev_var rfl) rv_I0) rv_I0)) fun _ =>
          et_B (ev_spV (z := .bl false) (ea_cons (ev_var rfl) (ea_cons (ev_var rfl) ea_nil)) rfl fun H4 e4 => ⟨n, pC, rfl, SqL.of (e4 _ _ (e _ _ h1)), rfl⟩)) ?_) (fun hb H4 e4 => ?_) fun hb H4 e4 => ?_
      · rw [trues_get, ← hc]
        exact Lm.plain_test (ho.pos n hno)
      · refine s_app (e4 _ _ hWl) (ev_var rfl) (ev_var rfl) ?_ fun H5 e5 => ⟨nSW, ?_, Ex.mut ((e.trans e4).trans e5) hW, ?_, _, rfl⟩
        · rw [List.length_map]
          have h1 := List.length_filter_le (fun x => decide (c < x)) ((Lm.srt (o.take p)).take j)
          have h2 := List.length_take_le' j (Lm.srt (o.take p))
          rw [Lm.srt_len] at h2
          have h3 := List.length_take_le' p o
          omega
        · rw [upd_ne nSW]
          exact (e4.trans e5) _ _ hS
        · rw [upd_same, htk, List.filter_append, List.map_append, List.filter_cons, hb]
          rfl
      · refine ⟨nSW, e4 _ _ hS, e.trans e4, ?_, _, rfl⟩
        rw [htk, List.filter_append, List.filter_cons, hb]
        rw [if_neg Bool.false_ne_true, List.filter_nil, List.append_nil]
        exact e4 _ _ hWl
    rintro pS σ' H3 ⟨nSW, hS, e3, hWl, v, rfl⟩
    have hrows : ((Lm.srt (o.take p)).take ((Lm.srt (o.take p)).map V.int).length).filter (fun x => decide (c < x)) = Lm.rows o c p := by
      rw [List.length_map, List.take_length]
      unfold Lm.rows
      rw [Lm.srt_filter]
    rw [hrows] at hWl
    have hcat : (Lm.rd o 0 (ps.take (i + 1))).flatten = (Lm.rd o 0 (ps.take i)).flatten ++ Lm.rows o c p := by
      rw [Lm.rd_take hpi, hc, List.flatten_append, List.flatten_singleton]
    -- page
    refine q_when (b := false) (et_test (ev_op (z := .bl false) (ev_var (v := .non) rfl) ev_c (rv_val fun H1 _ Q q => ⟨rfl, q⟩))) (fun hb => by cases hb) fun _ H4 e4 => ?_
    -- returned
    refine q_dupd (i := 6) (j := 11) (l := 12) rfl rfl ((e1.trans (e3.trans e4)) _ _ hRd) (e4 _ _ hWl) (by rw [← hcat]; exact Lm.rd_nodup ho.nd _ _) (by omega) (fun x => rfl) (fun x => rfl) fun H5 e5 => ?_
    rw [← hcat]
    have e15 : Ex H1 H5 := (e3.trans e4).trans e5
    -- ranges
    refine q_appU (xs := gs) (ys := [.int c, .int (Lm.mxl c (Lm.rows o c p))]) (l := pG) (by rw [upd_ne L.rg.symm]; exact (e1.trans e15) _ _ hGs) (ev_var rfl)
      (eu_tup (ea_cons (ev_var rfl) (ea_cons (ev_maxL (el_cat (xs := [.int c]) (el_lst (ea_cons (ev_var rfl) ea_nil) (by show 1 ≤ 100000; decide)) (ev_var rfl) (by rw [upd_ne hWR.symm]; exact (e4.trans e5) _ _ hWl) (by rw [List.length_map]; show 1 + _ ≤ _; omega))) ea_nil)) (by show 2 ≤ 100000; decide)) (by omega) fun pP H6 hP e6 h6 => ?_
    have hPG : pP ≠ pG := fun e => by
      rw [e, upd_ne L.rg.symm, (e1.trans e15) _ _ hGs] at hP
      cases hP
    -- cursor
    refine q_asg (v := .int (Lm.mxl c (Lm.rows o c p))) (ev_op (ev_op (ev_var (v := .ref pG) rfl) (ev_un ev_c ru_neg) (rv_ixL (v := .ref pP) (SqL.of upd_same) (atI_last _ _))) ev_c (rv_ixT (v := .int (Lm.mxl c (Lm.rows o c p))) (SqT.of (by rw [upd_ne hPG]; exact h6)) (atI_nat (j := 1) rfl))) fun H7 e7 => ?_
    -- found
    have hF7 : H7 pF = some (.lst (as.map V.ref)) := e7 _ _ (by rw [upd_ne L.fg]; exact e6 _ _ (by rw [upd_ne L.fr]; exact (e1.trans e15) _ _ hFa))
    refine s_app hF7 (ev_var rfl) (ev_var (v := .ref pW) rfl) (by rw [List.length_map, hRows.len, Lm.rd_len]; have := List.length_take_le i ps; omega) fun H8 e8 => ?_
    have eG5 : Ex G (upd H5 pR (.dK (trues (Lm.rd o 0 (ps.take (i + 1))).flatten))) := Ex.mut ((L.e.trans e1).trans e15) L.nR
    have eG8 : Ex G (upd H8 pF (.lst (as.map V.ref ++ [.ref pW]))) := Ex.mut (((Ex.mut (eG5.trans e6) L.nG).trans e7).trans e8) L.nF
    have hW8 : H8 pW = some (.lst ((Lm.rows o c p).map V.int)) := (e7.trans e8) _ _ (by rw [upd_ne hWG.symm]; exact e6 _ _ (by rw [upd_ne hWR.symm]; exact (e4.trans e5) _ _ hWl))
    refine ⟨upd G pW (.lst ((Lm.rows o c p).map V.int)), ⟨Ex.mut L.e0 (fresh_back L.e0 hW0), ex_add eG8 (by rw [upd_ne hWF.symm]; exact hW8), by rw [upd_ne hWF]; exact L.nF, by rw [upd_ne hWR]; exact L.nR, by rw [upd_ne hWG]; exact L.nG, L.fr, L.fg, L.rg,
      ⟨as ++ [pW], by rw [upd_same, List.map_append]; rfl, ?_⟩, ?_, ⟨gs ++ [.ref pP], ?_, by rw [List.length_append, hgl]; rfl⟩⟩, some (.int (p : Int)), some (.ref pC), some (.ref pW), v, ?_⟩
    · rw [Lm.rd_take hpi, hc]
      exact Rows.snoc (hRows.ex (Ex.new hW0)) upd_same
    · rw [upd_ne L.fr.symm]
      exact (e7.trans e8) _ _ (by rw [upd_ne L.rg]; exact e6 _ _ upd_same)
    · rw [upd_ne L.fg.symm]
      exact (e7.trans e8) _ _ upd_same
    · rw [Lm.cur_take hpi, hc]
      rfl
  · rintro σ' H' ⟨G, L, v9, v10, v11, v12, rfl⟩
    obtain ⟨as, hFa, hRows⟩ := L.F
    rw [nums_len, List.take_length] at hRows
    refine s_ret (ev_var (v := .ref pF) rfl) fun H1 e1 => k pF H1 hF ((L.e0.trans L.e).trans e1) ⟨as, e1 _ _ hFa, (hRows.ex L.e).ex e1⟩
end
end Lp

/-! ## V5 -/
set_option Elab.async false
set_option linter.all false
set_option maxRecDepth 100000
set_option maxHeartbeats 4000000
/-! states_in, read, states, lost_ids. -/
namespace Lp
open PySem PySem.Spec PyProof.Rows L2 Evl
section
variable {P : Program} {w : World} {K : PySem.W.Frag} {mg : Str → Option Value} {base : Heap}
/-- a new dict comes back -/
def spD (n : Nat) (pre : List V → Hp → List (Key × V) → Prop) : Sp := fun vs H Q _ => vs.length = n ∧ ∃ kvs, pre vs H kvs ∧ ∀ p H', H p = none → Ex H H' → H' p = some (.dK kvs) → Q (.ref p) H'
theorem spD_len {n : Nat} {pre : List V → Hp → List (Key × V) → Prop} {ps : List Str} (h : ps.length = n) : ∀ vs H Q E, spD n pre vs H Q E → vs.length = ps.length := fun vs H Q E q => q.1.trans h.symm
def stV : Lm.Stt → V
  | .read => .str "read"
  | .lost => .str "lost"
  | .op => .str "open"
/-- an id with what became of it -/
def stKV (R : List Int) (C : Int) (x : Int) : Key × V := (Sum.inl x, stV (Lm.stt R C x))
def preStates (K : PySem.W.Frag) : List V → Hp → List (Key × V) → Prop := fun vs H kvs => ∃ a b o rss, vs = [.ref a, .ref b] ∧ SqL K H a (o.map V.int) ∧ LL H b rss ∧ o.Nodup ∧ o.length ≤ 30 ∧ rss.length ≤ 30 ∧ rss.flatten.Nodup ∧ rss.flatten.length ≤ 30 ∧
  kvs = (Lm.srt o).map (stKV rss.flatten (Lm.mxl 0 rss.flatten))
def nmStates : List Str := ["order", "lists", "returned", "cursor", "found", "row", "rows"]
theorem sc_states_in : FnScope nmStates ["order", "lists"] (defScope Lh.s_states_in) := ⟨rfl, rfl, rfl, by decide +kernel, rfl, by decide +kernel, by decide +kernel⟩
theorem gset {i : Nat} {v : V} {σ : L2.St} {H : Hp} {Q : L2.St → Hp → Prop} (h : Q (σ.set i (some v)) H) : gName i v σ H Q := h
theorem flat_take {rss : List (List Int)} {i : Nat} {rs : List Int} (h : rss[i]? = some rs) : (rss.take (i + 1)).flatten = (rss.take i).flatten ++ rs := by
  rw [List.take_add_one, h, List.flatten_append]
  simp
theorem flat_sub {rss : List (List Int)} {i : Nat} {rs : List Int} (h : rss[i]? = some rs) (j : Nat) : ((rss.take i).flatten ++ rs.take j).Sublist rss.flatten := by
  have e : rss.flatten = (rss.take (i + 1)).flatten ++ (rss.drop (i + 1)).flatten := by rw [← List.flatten_append, List.take_append_drop]
  rw [e, flat_take h]
  exact ((List.Sublist.refl _).append (List.take_sublist _ _)).trans (List.sublist_append_left _ _)
theorem trues_put {R : List Int} {x : Int} (h : x ∉ R) : putK (trues R) (Sum.inl x) (.bl true) = trues (R ++ [x]) := by
  rw [putK_new _ (valV_none fun p hp => ?_)]
  · unfold trues
    rw [List.map_append]
    rfl
  · obtain ⟨y, hy, rfl⟩ := List.mem_map.mp hp
    intro e
    exact h (Sum.inl.inj e ▸ hy)
theorem mxl0_len (R : List Int) : (trues R).length = R.length := List.length_map _
theorem ok_states_in (T : Facts K mg) : Def P w K mg base "states_in" 1 ["order", "lists"] [] (spD 2 (preStates K)) := by
  obtain ⟨fd, F⟩ := T.fn 31
  refine ⟨⟨fd, [], go F sc_states_in (spD_len rfl) fun cdv A outer s H vs Q E hr h => ?_, F.bindsN fun _ _ _ _ _ _ us hl => match us, hl with | [_, _], _ => rfl, .nil⟩, T.glo 18, F.kp⟩
  obtain ⟨hn, z, ⟨a, b, o, rss, rfl, hs, hb, ho, hol, hrl, hrn, hrf, rfl⟩, k⟩ := h
  have hu := hu_of hr
  have nd := sc_states_in.nd
  refine ⟨_, pss_cons (Kx.ps_setDc2 (i := 2) (own := [("rows", 6), ("row", 5)]) (vs1 := [5]) (wi1 := iList K (tVar 6)) (g := gName 6) (g1 := gName 5) rfl nd rfl rfl rfl (pi_list (pv 1))
        (blkOk_by (own := [("rows", 6), ("row", 5)]) (N := nmStates) (sc := defScope Lh.s_states_in) (by decide +kernel)) (by decide)
        (fun _ _ _ _ _ => pg_name (i := 6) nd rfl (Or.inl rfl)) (fun _ _ _ _ _ => pi_list (pv 6)) (fun _ _ _ _ _ => pg_name (i := 5) nd rfl (Or.inl rfl)) (fun _ _ _ _ _ => pv 5) (fun _ _ _ _ _ => pe_bl))
    (pss_cons (ps_set (i := 3) nd rfl (Or.inl rfl) (pe_callB (cr_max rfl) rfl T.n_max boot_max (pa_cons (pe_op op_cat (pe_lst (pa_cons pe_int pa_nil)) (pe_callTy (call_listD rfl) rfl T.n_list boot_list (pa_cons (pv 2) pa_nil))) pa_nil)))
    (pss_cons (ps_set (i := 4) nd rfl (Or.inl rfl) pe_dnewK)
    (pss_cons (ps_for PassesOwn.never rfl (pi_list (pe_callB cr_sortedI rfl T.n_sorted boot_sorted (pa_cons (pv 0) pa_nil))) (pg_name (i := 5) nd rfl (Or.inl rfl))
      (pss_one (ps_if (pt_cmp (pc_din hu (pv 5) (pv 2)) rfl) (pss_one (ps_dput hu (pv 4) (pv 5) (pe_gstr T.c_READ) rfl))
        (pss_one (ps_dput hu (pv 4) (pv 5) (pe_ifExp (pt_cmpR op_lt (pv 5) (pv 3) (nomark _)) (pe_gstr T.c_LOST) (pe_gstr T.c_OPEN)) rfl)))))
    (pss_one (ps_ret (pv 4)))))), ?_⟩
  obtain ⟨as, hb, hRows⟩ := hb
  have hal : as.length = rss.length := hRows.len
  -- returned
  refine ⟨.ref b, rfl, b, rfl, ⟨_, SqL.of hb⟩, fun D hD => ?_⟩
  have wb := (List.length_map V.ref ▸ walk_list (K := K) (a := b) (xs := as.map V.ref) : Walk (Itl K b) as.length _ _)
  refine ⟨fun i m H' => m = as.length - i ∧ i ≤ as.length ∧ Ex H H' ∧ H' D = some (.dK (trues (rss.take i).flatten)), ⟨as.length, by simp, Nat.zero_le _, Ex.new hD, upd_same⟩, ?_⟩
  rintro i m H' ⟨rfl, hi, e, hl⟩
  have hb' : SqL K H' b (as.map V.ref) := SqL.of (e _ _ hb)
  by_cases hlt : i < as.length
  · refine .inr ⟨wb.goes i H' hlt hb', fun H'' => Ex H H'' ∧ H'' D = some (.dK (trues (rss.take (i + 1)).flatten)), fun H'' h => ⟨as.length - (i + 1), by omega, rfl, hlt, h.1, h.2⟩, fun x H'' y => ?_⟩
    obtain ⟨rfl, hx⟩ := wb.yields i H' x H'' hlt hb' y
    rw [List.getElem?_map, List.getElem?_eq_getElem hlt] at hx
    obtain ⟨rs, hrs, hrow⟩ := hRows.get (List.getElem?_eq_getElem hlt)
    have hx2 : V.ref as[i] = x := Option.some.inj hx
    subst hx2
    refine ⟨rfl, ?_⟩
    refine ⟨.ref as[i], rfl, as[i], rfl, ⟨_, SqL.of (e _ _ hrow)⟩, ?_⟩
    have wr := (List.length_map V.int ▸ walk_list (K := K) (a := as[i]) (xs := rs.map V.int) : Walk (Itl K as[i]) rs.length _ _)
    refine ⟨fun j m H' => m = rs.length - j ∧ j ≤ rs.length ∧ Ex H H' ∧ H' D = some (.dK (trues ((rss.take i).flatten ++ rs.take j))), ⟨rs.length, by simp, Nat.zero_le _, e, by rw [List.take_zero, List.append_nil]; exact hl⟩, ?_⟩
    rintro j m H4 ⟨rfl, hj, e4, hl4⟩
    have hr4 : SqL K H4 as[i] (rs.map V.int) := SqL.of (e4 _ _ hrow)
    by_cases hjl : j < rs.length
    · refine .inr ⟨wr.goes j H4 hjl hr4, fun H'' => Ex H H'' ∧ H'' D = some (.dK (trues ((rss.take i).flatten ++ rs.take (j + 1)))), fun H'' h => ⟨rs.length - (j + 1), by omega, rfl, hjl, h.1, h.2⟩, fun x H5 y => ?_⟩
      obtain ⟨rfl, hx⟩ := wr.yields j H4 x H5 hjl hr4 y
      rw [List.getElem?_map, List.getElem?_eq_getElem hjl] at hx
      have hx2 : V.int rs[j] = x := Option.some.inj hx
      subst hx2
      refine ⟨rfl, .int rs[j], rfl, trues ((rss.take i).flatten ++ rs.take j), Sum.inl rs[j], rfl, hl4, ?_, Ex.mut e4 hD, ?_⟩
      · have := (flat_sub hrs j).length_le
        rw [mxl0_len]
        exact sz_lt (by omega)
      · have hsub := (flat_sub hrs (j + 1)).nodup hrn
        have et : rs.take (j + 1) = rs.take j ++ [rs[j]] := by rw [List.take_add_one, List.getElem?_eq_getElem hjl]; rfl
        rw [et, ← List.append_assoc] at hsub ⊢
        rw [upd_same, trues_put fun h => (List.nodup_append.mp hsub).2.2 _ h _ (List.mem_singleton.mpr rfl) rfl]
    · have : j = rs.length := by omega
      subst this
      refine .inl ⟨wr.stops H4 hr4, e4, ?_⟩
      rw [flat_take hrs]
      rw [List.take_length] at hl4
      exact hl4
  have : i = as.length := by omega
  subst this
  rw [hal, List.take_length] at hl
  refine .inl ⟨wb.stops H' hb', ?_⟩
  generalize hR : rss.flatten = R at *
  -- cursor
  refine gset ?_
  show tSeq _ _ _ [some (.ref a), some (.ref b), some (.ref D), none, none, none, none] H'
  refine q_asg (v := .int (Lm.mxl 0 R)) (ev_maxL (c := 0) (ns := R) (el_catL (xs := [.int 0]) (el_lst (ea_cons ev_c ea_nil) (by show 1 ≤ 100000; decide)) (el_to (el_listD (ev_var rfl) hl) (by unfold trues; rw [List.map_map]; rfl)) (by rw [List.length_map]; show 1 + _ ≤ _; omega))) fun H1 e1 => ?_
  -- found
  refine fun pF hF => ?_
  have e2 : Ex H1 (upd H1 pF (.dK [])) := Ex.new hF
  have hFD : D ≠ pF := ne_of_none (e1 _ _ hl) hF
  refine q_forNLn (xs := (Lm.srt o).map V.int) (el_sorted (ev_var (v := .ref a) rfl) (ex_l ((e.trans e1).trans e2) hs))
    (fun pS j σ' H'' => pS ≠ pF ∧ H'' pS = some (.lst ((Lm.srt o).map V.int)) ∧ Ex H1 H'' ∧ H'' pF = some (.dK (((Lm.srt o).take j).map (stKV R (Lm.mxl 0 R)))) ∧
      ∃ v5, σ' = [some (.ref a), some (.ref b), some (.ref D), some (.int (Lm.mxl 0 R)), some (.ref pF), v5, none]) ?_ (fun pS j σ' H'' _ h => SqL.of h.2.1) ?_ ?_
  · intro pS H3 hS e3 h3
    exact ⟨(fun e => by rw [e, upd_same] at hS; cases hS), h3, e2.trans e3, e3 _ _ upd_same, _, rfl⟩
  · rintro pS j x σ' H'' hj ⟨nSF, hS, e3, hf, v5, rfl⟩
    obtain ⟨n, hnj, rfl⟩ := ints_get hj
    have htk : (Lm.srt o).take (j + 1) = (Lm.srt o).take j ++ [n] := by
      rw [List.take_add_one, hnj]
      rfl
    have hjl := (List.getElem?_eq_some_iff.mp hnj).1
    rw [Lm.srt_len] at hjl
    have hnew : valV (((Lm.srt o).take j).map (stKV R (Lm.mxl 0 R))) (Sum.inl n) = none := by
      refine valV_none fun p hp => ?_
      obtain ⟨y, hy, rfl⟩ := List.mem_map.mp hp
      intro ee
      have hh := ((List.take_sublist (j + 1) (Lm.srt o)).nodup (Lm.srt_nodup ho))
      rw [htk] at hh
      exact (List.nodup_append.mp hh).2.2 y hy n (List.mem_singleton.mpr rfl) (Sum.inl.inj ee)
    have hlen : (((Lm.srt o).take j).map (stKV R (Lm.mxl 0 R))).length < 100000 := by
      rw [List.length_map]
      have := List.length_take_le j (Lm.srt o)
      omega
    have fin : ∀ (v : V) (H4 : Hp), Ex H'' H4 → v = stV (Lm.stt R (Lm.mxl 0 R) n) → pS ≠ pF ∧ upd H4 pF (.dK (putK (((Lm.srt o).take j).map (stKV R (Lm.mxl 0 R))) (Sum.inl n) v)) pS = some (.lst ((Lm.srt o).map V.int)) ∧ Ex H1 (upd H4 pF (.dK (putK (((Lm.srt o).take j).map (stKV R (Lm.mxl 0 R))) (Sum.inl n) v))) ∧
        upd H4 pF (.dK (putK (((Lm.srt o).take j).map (stKV R (Lm.mxl 0 R))) (Sum.inl n) v)) pF = some (.dK (((Lm.srt o).take (j + 1)).map (stKV R (Lm.mxl 0 R)))) := by
      rintro v H4 e4 rfl
      refine ⟨nSF, ?_, Ex.mut (e3.trans e4) hF, ?_⟩
      · rw [upd_ne nSF]
        exact e4 _ _ hS
      · rw [upd_same, putK_new _ hnew, htk, List.map_append]
        rfl
    refine s_if (b := decide (n ∈ R)) (et_B (ev_bl (ev_din (k := Sum.inl n) (ev_var rfl) (ev_var rfl) ((e1.trans e3) _ _ hl) rfl) (trues_get R n))) (fun hb H4 e4 => ?_) fun hb H4 e4 => ?_
    · refine s_dput (k := Sum.inl n) (v := .str "read") ev_c (ev_var rfl) (ev_var rfl) (e4 _ _ hf) hlen fun H5 e5 => ?_
      obtain ⟨q1, q2, q3, q4⟩ := fin (.str "read") H5 (e4.trans e5) (by unfold Lm.stt; rw [if_pos (of_decide_eq_true hb)]; rfl)
      exact ⟨q1, q2, q3, q4, _, rfl⟩
    · refine s_dput (k := Sum.inl n) (v := stV (Lm.stt R (Lm.mxl 0 R) n)) (ev_if (et_test (ev_op (ev_var rfl) (ev_var rfl) rv_I0)) (fun hc => ev_to ev_c ?_) fun hc => ev_to ev_c ?_) (ev_var rfl) (ev_var rfl) (e4 _ _ hf) hlen fun H5 e5 => ?_
      · unfold Lm.stt
        rw [if_neg (of_decide_eq_false hb), if_pos (of_decide_eq_true hc)]
        rfl
      · unfold Lm.stt
        rw [if_neg (of_decide_eq_false hb), if_neg (of_decide_eq_false hc)]
        rfl
      · obtain ⟨q1, q2, q3, q4⟩ := fin _ H5 (e4.trans e5) rfl
        exact ⟨q1, q2, q3, q4, _, rfl⟩
  · rintro pS σ' H'' ⟨nSF, hS, e3, hf, v5, rfl⟩
    rw [List.length_map, List.take_length] at hf
    exact s_ret (ev_var (v := .ref pF) rfl) fun H4 e4 => k pF H4 (fresh_back (e.trans e1) hF) ((e.trans e1).trans (e3.trans e4)) (e4 _ _ hf)
end
end Lp

/-! ## V6 -/
set_option Elab.async false
set_option linter.all false
set_option maxRecDepth 100000
set_option maxHeartbeats 4000000
/-! read, states, lost_ids. -/
namespace Lp
open PySem PySem.Spec PyProof.Rows L2 Evl
section
variable {P : Program} {w : World} {K : PySem.W.Frag} {mg : Str → Option Value} {base : Heap}
theorem call_in {sp : Sp} {dvs : List V} {E : XK} {t : TA} {σ : L2.St} {H : Hp} {Q : VK} (h : t σ H fun vs H1 => sp (vs ++ dvs) H1 Q E) : tCall sp dvs E t σ H Q := h
theorem cons_in {te : TE} {ta : TA} {σ : L2.St} {H : Hp} {Q : List V → Hp → Prop} (h : te σ H fun x H1 => ta σ H1 fun xs H2 => Q (x :: xs) H2) : tCons te ta σ H Q := h
/-- a reader's arguments -/
structure RdA (K : PySem.W.Frag) (H : Hp) (a b : Addr) (o : List Int) (ps : List Nat) : Prop where
  so : SqL K H a (o.map V.int)
  sp : SqL K H b (nums ps)
  io : Lm.IsOrd o
  ip : Lm.IsPolls o ps
theorem RdA.ex {H H' : Hp} {a b : Addr} {o : List Int} {ps : List Nat} (e : Ex H H') (h : RdA K H a b o ps) : RdA K H' a b o ps := ⟨ex_l e h.so, ex_l e h.sp, h.io, h.ip⟩
abbrev nm5 : List Str := ["order", "polls", "overlap", "wait", "page"]
abbrev kw5 : List V := [.int 1, .int 0, .non]
theorem sc_read : FnScope nm5 nm5 (defScope Lh.s_read) := ⟨rfl, rfl, rfl, by decide +kernel, rfl, by decide +kernel, by decide +kernel⟩
theorem ok_read (T : Facts K mg) : Def P w K mg base "read" 6 nm5 kw5 (spLL 5 (preLists K)) := by
  obtain ⟨fd, F⟩ := T.fn 32
  obtain ⟨ds, hd, hb⟩ := FunD.binds0 (ps := nm5) F 2 (List.cons_ne_nil _ _) rfl fun D doc pm an cdv ct us ks l2 l1 => match us, ks, l2, l1 with
    | [_, _], [_, _, _], _, _ => ⟨_, _, _, _, _, _, rfl, rfl, _, _, _, _, _, _, rfl, rfl, _, _, _, _, _, _, rfl, rfl, rfl⟩
  refine ⟨⟨fd, ds, go F sc_read (spLL_len rfl) fun cdv A outer s H vs Q E hr h => ?_, hb, hd⟩, T.glo 19, F.kp⟩
  obtain ⟨hn, z, ⟨a, b, o, ps, rfl, hs, hb, ho, hp, rfl⟩, k⟩ := h
  refine ⟨_, pss_cons (ps_expr (pe_def (ok_require_reader T) hr (pa_cons (pv 0) (pa_cons (pv 1) (pa_cons (pv 2) (pa_cons (pv 3) (pa_cons (pv 4) pa_nil)))))))
    (pss_one (ps_ret (pe_def (ok_lists_of T) (hr.mono (by decide)) (pa_cons (pv 0) (pa_cons (pv 1) (pa_cons (pv 2) (pa_cons (pv 3) (pa_cons (pv 4) pa_nil)))))))), ?_⟩
  refine q_drop (ev_spV (z := .non) (ea_cons (ev_var rfl) (ea_cons (ev_var rfl) (ea_cons (ev_var rfl) (ea_cons (ev_var rfl) (ea_cons (ev_var rfl) ea_nil))))) rfl fun H1 e => ⟨a, b, o, ps, rfl, ex_l e hs, ex_l e hb, ho, hp, rfl⟩) fun H1 e1 => ?_
  refine s_retCall (ea_cons (ev_var rfl) (ea_cons (ev_var rfl) (ea_cons (ev_var rfl) (ea_cons (ev_var rfl) (ea_cons (ev_var rfl) ea_nil))))) fun H2 e2 => ?_
  have e12 := e1.trans e2
  exact ⟨rfl, _, ⟨a, b, o, ps, rfl, ex_l e12 hs, ex_l e12 hb, ho, hp, rfl⟩, fun p H' hp e h => k p H' (fresh_back e12 hp) (e12.trans e) h⟩
/-- what states gives -/
def endKV (o : List Int) (ps : List Nat) : List (Key × V) := (Lm.srt o).map (stKV (Lm.rd o 0 ps).flatten (Lm.cur o 0 ps))
theorem rd_cur (o : List Int) (ps : List Nat) : Lm.mxl 0 (Lm.rd o 0 ps).flatten = Lm.cur o 0 ps := (Lm.cur_eq o ps 0).symm
def preEnds (K : PySem.W.Frag) : List V → Hp → List (Key × V) → Prop := fun vs H kvs => ∃ a b o ps, vs = [.ref a, .ref b, .int 1, .int 0, .non] ∧ RdA K H a b o ps ∧ kvs = endKV o ps
/-- states_in(order, lists_of(..)) -/
theorem e_states {σ : L2.St} {H : Hp} {Q : VK} {a b : Addr} {o : List Int} {ps : List Nat} (R : RdA K H a b o ps) (h0 : σ[0]? = some (some (.ref a))) (h1 : σ[1]? = some (some (.ref b))) (h2 : σ[2]? = some (some (.int 1))) (h3 : σ[3]? = some (some (.int 0))) (h4 : σ[4]? = some (some .non))
    (k : ∀ p H', H p = none → Ex H H' → H' p = some (.dK (endKV o ps)) → Q (.ref p) H') :
    tCall (spD 2 (preStates K)) [] E0 (tCons (tVar 0) (tCons (tCall (spLL 5 (preLists K)) [] E0 (tCons (tVar 0) (tCons (tVar 1) (tCons (tVar 2) (tCons (tVar 3) (tCons (tVar 4) tNil)))))) tNil)) σ H Q := by
  refine call_in (cons_in ⟨.ref a, h0, cons_in (call_in ?_)⟩)
  refine (ea_cons (ev_var h0) (ea_cons (ev_var h1) (ea_cons (ev_var h2) (ea_cons (ev_var h3) (ea_cons (ev_var h4) ea_nil)))) : EvA _ σ H _) H (Ex.refl _) _ fun H1 e1 => ?_
  refine ⟨rfl, _, ⟨a, b, o, ps, rfl, ex_l e1 R.so, ex_l e1 R.sp, R.io, R.ip, rfl⟩, fun p H2 hp e2 h2 => ?_⟩
  have e12 := e1.trans e2
  refine ⟨rfl, _, ⟨a, p, o, _, rfl, ex_l e12 R.so, h2, R.io.nd, R.io.len, by rw [Lm.rd_len]; exact R.ip.len, Lm.rd_nodup R.io.nd _ _, Nat.le_trans (Lm.rd_flat_len R.io.nd _ _) R.io.len, rfl⟩, fun q H3 hq e3 h3 => ?_⟩
  rw [rd_cur] at h3
  exact k q H3 (fresh_back e12 hq) (e12.trans e3) h3
theorem sc_states : FnScope nm5 nm5 (defScope Lh.s_states) := ⟨rfl, rfl, rfl, by decide +kernel, rfl, by decide +kernel, by decide +kernel⟩
theorem ok_states (T : Facts K mg) : Def P w K mg base "states" 6 nm5 kw5 (spD 5 (preEnds K)) := by
  obtain ⟨fd, F⟩ := T.fn 33
  obtain ⟨ds, hd, hb⟩ := FunD.binds0 (ps := nm5) F 2 (List.cons_ne_nil _ _) rfl fun D doc pm an cdv ct us ks l2 l1 => match us, ks, l2, l1 with
    | [_, _], [_, _, _], _, _ => ⟨_, _, _, _, _, _, rfl, rfl, _, _, _, _, _, _, rfl, rfl, _, _, _, _, _, _, rfl, rfl, rfl⟩
  refine ⟨⟨fd, ds, go F sc_states (spD_len rfl) fun cdv A outer s H vs Q E hr h => ?_, hb, hd⟩, T.glo 20, F.kp⟩
  obtain ⟨hn, z, ⟨a, b, o, ps, rfl, R, rfl⟩, k⟩ := h
  refine ⟨_, pss_cons (ps_expr (pe_def (ok_require_reader T) hr (pa_cons (pv 0) (pa_cons (pv 1) (pa_cons (pv 2) (pa_cons (pv 3) (pa_cons (pv 4) pa_nil)))))))
    (pss_one (ps_ret (pe_def (ok_states_in T) (hr.mono (by decide)) (pa_cons (pv 0) (pa_cons (pe_def (ok_lists_of T) (hr.mono (by decide)) (pa_cons (pv 0) (pa_cons (pv 1) (pa_cons (pv 2) (pa_cons (pv 3) (pa_cons (pv 4) pa_nil)))))) pa_nil))))), ?_⟩
  refine q_drop (ev_spV (z := .non) (ea_cons (ev_var rfl) (ea_cons (ev_var rfl) (ea_cons (ev_var rfl) (ea_cons (ev_var rfl) (ea_cons (ev_var rfl) ea_nil))))) rfl fun H1 e => ⟨a, b, o, ps, rfl, ex_l e R.so, ex_l e R.sp, R.io, R.ip, rfl⟩) fun H1 e1 => ?_
  exact e_states (R.ex e1) rfl rfl rfl rfl rfl fun p H' hp e h => k p H' (fresh_back e1 hp) (e1.trans e) h
def nmLost : List Str := ["order", "polls", "overlap", "wait", "page", "found", "row"]
theorem sc_lost_ids : FnScope nmLost nm5 (defScope Lh.s_lost_ids) := ⟨rfl, rfl, rfl, by decide +kernel, rfl, by decide +kernel, by decide +kernel⟩
def preLost (K : PySem.W.Frag) : List V → Hp → List V → Prop := fun vs H xs => ∃ a b o ps, vs = [.ref a, .ref b, .int 1, .int 0, .non] ∧ RdA K H a b o ps ∧ xs = (Lm.lostL o ps).map V.int
theorem ev_dgetR {σ : L2.St} {H : Hp} {tk : TE} {i : Nat} {d : Addr} {kvs : List (Key × V)} {k : Key} {v : V} (hd : Ev (tVar i) σ H (.ref d)) (hk : Ev tk σ H (kV k)) (h : Rd H d (.dK kvs)) (ho : valV kvs k = some v) : Ev (tDGet (tVar i) tk) σ H v := by
  intro H1 e1 Q q
  exact hd H1 e1 _ fun H2 e2 => hk H2 (e1.trans e2) _ fun H3 e3 => ⟨d, v, rfl, .inl ⟨kvs, k, ex_rd ((e1.trans e2).trans e3) h, rfl, ho.symm⟩, q H3 (e2.trans e3)⟩
theorem walk_keys {d : Addr} {ob : Obj} {kvs : List (Key × V)} : Walk (Itk d ob kvs) kvs.length (fun H => H d = some (.frz ob (.dK kvs))) (fun i H v H' => H' = H ∧ ∃ k, kvs[i]? = some k ∧ v = kV k.1) where
  goes := fun i H hi h => ⟨h, hi⟩
  stops := fun H h => ⟨h, Nat.le_refl _⟩
  yields := fun i H v H' hi h y => by
    obtain ⟨rfl, k, u, e, rfl⟩ := y
    exact ⟨rfl, (k, u), e, rfl⟩
theorem ok_lost_ids (T : Facts K mg) : Def P w K mg base "lost_ids" 6 nm5 kw5 (spL 5 (preLost K)) := by
  obtain ⟨fd, F⟩ := T.fn 34
  obtain ⟨ds, hd, hb⟩ := FunD.binds0 (ps := nm5) F 2 (List.cons_ne_nil _ _) rfl fun D doc pm an cdv ct us ks l2 l1 => match us, ks, l2, l1 with
    | [_, _], [_, _, _], _, _ => ⟨_, _, _, _, _, _, rfl, rfl, _, _, _, _, _, _, rfl, rfl, _, _, _, _, _, _, rfl, rfl, rfl⟩
  refine ⟨⟨fd, ds, go F sc_lost_ids (spL_len rfl) fun cdv A outer s H vs Q E hr h => ?_, hb, hd⟩, T.glo 21, F.kp⟩
  obtain ⟨hn, z, ⟨a, b, o, ps, rfl, R, rfl⟩, k⟩ := h
  have hu := hu_of hr
  have nd := sc_lost_ids.nd
  refine ⟨_, pss_cons (ps_expr (pe_def (ok_require_reader T) hr (pa_cons (pv 0) (pa_cons (pv 1) (pa_cons (pv 2) (pa_cons (pv 3) (pa_cons (pv 4) pa_nil)))))))
    (pss_cons (ps_set (i := 5) nd rfl (Or.inr rfl) (pe_def (ok_states_in T) (hr.mono (by decide)) (pa_cons (pv 0) (pa_cons (pe_def (ok_lists_of T) (hr.mono (by decide)) (pa_cons (pv 0) (pa_cons (pv 1) (pa_cons (pv 2) (pa_cons (pv 3) (pa_cons (pv 4) pa_nil)))))) pa_nil))))
    (pss_one (ps_ret (pe_lock (pe_lc (own := [("row", 6)]) (g := gName 6) rfl nd (pi_keys (pv 5)) (blkOk_by (own := [("row", 6)]) (N := nmLost) (sc := defScope Lh.s_lost_ids) (by decide +kernel)) (fun _ _ _ _ _ => pg_name (i := 6) nd rfl (Or.inl rfl))
      (fun _ _ _ _ _ => pts_one (pt_cmpR op_eq (pe_dget hu (pv 5) (pv 6) fun _ _ => rfl) (pe_gstr T.c_LOST) (nomark _))) (fun _ _ _ _ _ => pv 6)))))), ?_⟩
  refine q_drop (ev_spV (z := .non) (ea_cons (ev_var rfl) (ea_cons (ev_var rfl) (ea_cons (ev_var rfl) (ea_cons (ev_var rfl) (ea_cons (ev_var rfl) ea_nil))))) rfl fun H1 e => ⟨a, b, o, ps, rfl, ex_l e R.so, ex_l e R.sp, R.io, R.ip, rfl⟩) fun H1 e1 => ?_
  refine e_states (R.ex e1) rfl rfl rfl rfl rfl fun p H2 hp e2 h2 => ?_
  refine ⟨p, _, h2, trivial, fun ob => ?_⟩
  have hp0 : H p = none := fresh_back e1 hp
  refine ⟨.ref p, rfl, p, ob, rfl, .inl ⟨_, upd_same, fun D hD => ?_⟩⟩
  have e02 : Ex H (upd H2 p (.frz ob (.dK (endKV o ps)))) := Ex.mut (e1.trans e2) hp0
  have hDp : D ≠ p := fun e => by rw [e, upd_same] at hD; cases hD
  generalize hR : (Lm.rd o 0 ps).flatten = RR
  generalize hC : Lm.cur o 0 ps = CC
  have hkl : (endKV o ps).length = (Lm.srt o).length := List.length_map _
  refine lc_pure (n := (Lm.srt o).length) (H1 := upd H2 p (.frz ob (.dK (endKV o ps)))) (hkl ▸ walk_keys (d := p) (ob := ob) (kvs := endKV o ps)) (fun i => ((Lm.srt o)[i]?).bind fun x => if decide (Lm.stt RR CC x = .lost) = true then some (V.int x) else none) hD (fun H' e' => e' _ _ upd_same)
    (by have := R.io.len; rw [Lm.srt_len]; omega) ?_ fun H3 e3 h3 => ?_
  · rintro i x H' H'' hi e' ⟨rfl, kv, hkv, rfl⟩
    unfold endKV at hkv
    rw [List.getElem?_map, List.getElem?_eq_getElem hi, hR, hC] at hkv
    have hkv2 : stKV RR CC (Lm.srt o)[i] = kv := Option.some.inj hkv
    subst hkv2
    rw [List.getElem?_eq_getElem hi]
    generalize hx : (Lm.srt o)[i] = x
    have hxm : x ∈ Lm.srt o := hx ▸ List.getElem_mem hi
    have hget : valV (endKV o ps) (Sum.inl x) = some (stV (Lm.stt RR CC x)) := by
      have hnd : ((endKV o ps).map (·.1)).Nodup := by
        unfold endKV
        rw [List.map_map]
        exact inl_nodup (Lm.srt_nodup R.io.nd)
      have := val_nodup hnd (stKV RR CC x) (by unfold endKV; rw [hR, hC]; exact List.mem_map.mpr ⟨x, hxm, rfl⟩)
      exact this
    have ht : EvT _ [some (.ref a), some (.ref b), some (.int 1), some (.int 0), some .non, some (.ref p), some (.int x)] H'' (decide (Lm.stt RR CC x = .lost)) :=
      et_is (et_test (ev_op (ev_dgetR (i := 5) (k := Sum.inl x) (ev_var rfl) (ev_var (i := 6) rfl) (.inr ⟨ob, e' _ _ upd_same⟩) hget) (ev_c (v := .str "lost")) (rv_eq (by cases Lm.stt RR CC x <;> rfl)))) (by cases Lm.stt RR CC x <;> decide)
    refine ⟨Ex.refl _, [some (.ref a), some (.ref b), some (.int 1), some (.int 0), some .non, some (.ref p), some (.int x)], rfl, fun Q q => q, fun z => ?_, fun v z => ?_⟩
    · cases hd : decide (Lm.stt RR CC x = .lost) with
      | false => rw [hd] at ht; exact ht
      | true => rw [Option.bind_some, hd] at z; cases z
    · cases hd : decide (Lm.stt RR CC x = .lost) with
      | false => rw [Option.bind_some, hd] at z; cases z
      | true =>
        rw [Option.bind_some, hd] at z
        cases z
        rw [hd] at ht
        exact ⟨ht, ev_var rfl⟩
  · refine ⟨e3 _ _ upd_same, ?_⟩
    refine k D _ (fresh_back e02 hD) (Ex.mut (e02.trans e3) hp0) ?_
    rw [upd_ne hDp, h3, range_fm', fm_flt, ← hR, ← hC, Lm.lost_by_states R.io R.ip]
end
end Lp

/-! ## V7 -/
set_option Elab.async false
set_option linter.all false
set_option maxRecDepth 100000
set_option maxHeartbeats 4000000
/-! walk_polls. -/
namespace Lp
open PySem PySem.Spec PyProof.Rows L2 Evl
section
variable {P : Program} {w : World} {K : PySem.W.Frag} {mg : Str → Option Value} {base : Heap}
theorem qg_asg {te : TE} {u : TGn} {D : GEnds} {ys : List V} {σ : L2.St} {H : Hp} {v : V} {i : Nat} (h : Ev te σ H v) (k : ∀ H1, Ex H H1 → u D ys (σ.set i (some v)) H1) : tGThen (tPlain (tAsg te (gName i))) u D ys σ H := h H (Ex.refl _) _ k
theorem qg_drop {te : TE} {u : TGn} {D : GEnds} {ys : List V} {σ : L2.St} {H : Hp} {v : V} (h : Ev te σ H v) (k : ∀ H1, Ex H H1 → u D ys σ H1) : tGThen (tPlain (tDrop te)) u D ys σ H := h H (Ex.refl _) _ k
theorem qg_yield {te : TE} {u : TGn} {D : GEnds} {ys xs : List V} {σ : L2.St} {H : Hp} (hz : ys.length < 100000) (h : EvU te σ H xs) (k : ∀ p H1, H p = none → Ex H H1 → H1 p = some (.tup xs) → u D (ys ++ [.ref p]) σ H1) : tGThen (tGYield te) u D ys σ H := ⟨sz_lt hz, h H (Ex.refl _) _ k⟩
theorem qg_for {tl : TE} {g : TG} {tb u : TGn} {D : GEnds} {ys : List V} {σ : L2.St} {H : Hp} (h : tl σ H fun x H1 => ∃ a, x = .ref a ∧ (∃ xs, SqL K H1 a xs) ∧ ∃ W : Nat → Nat → List V → L2.St → Hp → Prop, (∃ m, W 0 m ys σ H1) ∧ ∀ i m ys σ H, W i m ys σ H →
    ((Itl K a).stop i H ∧ u D ys σ H) ∨ ((Itl K a).go i H ∧ ∃ N : List V → L2.St → Hp → Prop, (∀ ys' σ' H', N ys' σ' H' → ∃ m', m' < m ∧ W (i + 1) m' ys' σ' H') ∧ ∀ x H', (Itl K a).yld i H x H' → g x σ H' fun σ2 H2 => tb { D with nx := N, ct := N, bk := fun ys' σ' H' => u D ys' σ' H' } ys σ2 H2)) :
    tGThen (Kx.tGFor (iList K tl) g tb) u D ys σ H := h
/-- what walk_polls hands out -/
def WalkOut (H : Hp) (ys : List V) (o : List Int) (ps : List Nat) (n : Nat) : Prop := ys.length = n ∧ ∀ i, i < n → ∃ T r rs, ys[i]? = some (.ref T) ∧ H T = some (.tup [.ref r, .int (Lm.cur o 0 (ps.take (i + 1)))]) ∧ (Lm.rd o 0 ps)[i]? = some rs ∧ H r = some (.lst (rs.map V.int))
theorem WalkOut.ex {H H' : Hp} {ys : List V} {o : List Int} {ps : List Nat} {n : Nat} (e : Ex H H') (h : WalkOut H ys o ps n) : WalkOut H' ys o ps n := by
  refine ⟨h.1, fun i hi => ?_⟩
  obtain ⟨T, r, rs, h1, h2, h3, h4⟩ := h.2 i hi
  exact ⟨T, r, rs, h1, e _ _ h2, h3, e _ _ h4⟩
def spW (K : PySem.W.Frag) : SpG := fun vs H cont _ => ∃ a b o ps, vs = [.ref a, .ref b] ∧ RdA K H a b o ps ∧ ∀ ys H', Ex H H' → WalkOut H' ys o ps ps.length → cont ys H'
def nmWalk : List Str := ["order", "polls", "cursor", "rows"]
theorem sc_walk : GScope nmWalk ["order", "polls"] (defScope Lh.s_walk_polls) := ⟨rfl, rfl, rfl, by decide +kernel, rfl, by decide +kernel, by decide +kernel⟩
theorem rd_get {o : List Int} {ps : List Nat} {i : Nat} {rs : List Int} (h : (Lm.rd o 0 ps)[i]? = some rs) : rs.length ≤ o.length ∧ Lm.cur o 0 (ps.take (i + 1)) = Lm.mxl (Lm.cur o 0 (ps.take i)) rs := by
  have hi := (List.getElem?_eq_some_iff.mp h).1
  rw [Lm.rd_len] at hi
  have hp : ps[i]? = some ps[i] := List.getElem?_eq_getElem hi
  have e : Lm.rd o 0 ps = Lm.rd o 0 (ps.take (i + 1)) ++ Lm.rd o (Lm.cur o 0 (ps.take (i + 1))) (ps.drop (i + 1)) := by rw [← Lm.rd_append, List.take_append_drop]
  rw [e, Lm.rd_take hp, List.append_assoc, List.getElem?_append_right (by rw [Lm.rd_len, List.length_take]; omega)] at h
  have e2 : i - (Lm.rd o 0 (ps.take i)).length = 0 := by rw [Lm.rd_len, List.length_take]; omega
  rw [e2] at h
  have h2 := Option.some.inj h
  rw [← h2]
  exact ⟨Lm.rows_len _ _ _, Lm.cur_take hp⟩
theorem ok_walk (T : Facts K mg) : ∃ fd, GFn P w K mg base 5 (He.ga K "walk_polls") fd ["order", "polls"] (spW K) ∧ Binds K fd ["order", "polls"] [] ∧ PySem.W.keepIn K (.ref (He.ga K "walk_polls")) = true := by
  obtain ⟨fd, F⟩ := T.fn 35
  have kp := F.kp
  have hb : Binds K fd ["order", "polls"] [] := F.bindsN fun _ _ _ _ _ _ us hl => match us, hl with | [_, _], _ => rfl
  obtain ⟨oc, od, dV, kV, doc, pm, an, cdv, ct, osl, rfl, lk, hcd, hD, hK⟩ := F.ex
  refine ⟨_, gfn_of lk hcd sc_walk ?_ ?_, hb, kp⟩
  · rintro vs H Q E ⟨a, b, o, ps, rfl, _⟩
    rfl
  rintro A outer s H vs Q E pn hr ⟨a, b, o, ps, rfl, R, k⟩
  have nd := sc_walk.nd
  refine ⟨_, gss_cons (gs_ps (ps_expr (pe_def (ok_require_order T) hr (pa_cons (pv 0) pa_nil)))) (gss_cons (gs_ps (ps_expr (pe_def (ok_require_polls T) (hr.mono (by decide)) (pa_cons (pv 0) (pa_cons (pv 1) pa_nil)))))
    (gss_cons (gs_ps (ps_set (i := 2) nd rfl (Or.inl rfl) pe_int))
    (gss_cons (Kx.gs_for owns_gcx rfl (pi_list (pe_def (ok_lists_of T) (hr.mono (by decide)) (pa_cons (pv 0) (pa_cons (pv 1) (pa_cons pe_int (pa_cons pe_int (pa_cons pe_non pa_nil))))))) (pg_name (i := 3) nd rfl (Or.inl rfl))
      (gss_cons (gs_ps (ps_set (i := 2) nd rfl (Or.inl rfl) (pe_callB (cr_max rfl) rfl T.n_max boot_max (pa_cons (pe_op op_cat (pe_lst (pa_cons (pv 2) pa_nil)) (pv 3)) pa_nil))))
        (gss_cons (gs_yield (pe_tup (pa_cons (pv 3) (pa_cons (pv 2) pa_nil)))) gss_nil))) gss_nil))), ?_⟩
  refine qg_drop (ev_spV (z := .non) (ea_cons (ev_var rfl) ea_nil) rfl fun H1 e => ⟨a, o, rfl, ex_l e R.so, R.io, rfl⟩) fun H1 e1 => ?_
  refine qg_drop (ev_spV (z := .non) (ea_cons (ev_var rfl) (ea_cons (ev_var rfl) ea_nil)) rfl fun H2 e => ⟨a, b, o, ps, rfl, ex_l (e1.trans e) R.so, ex_l (e1.trans e) R.sp, R.ip, rfl⟩) fun H2 e2 => ?_
  have e12 := e1.trans e2
  refine qg_asg (v := .int 0) ev_c fun H3 e3 => ?_
  have e13 := e12.trans e3
  refine qg_for (call_in ?_)
  refine (ea_cons (ev_var rfl) (ea_cons (ev_var rfl) (ea_cons ev_c (ea_cons ev_c (ea_cons ev_c ea_nil)))) : EvA _ [some (.ref a), some (.ref b), some (.int 0), none] H3 [.ref a, .ref b, .int 1, .int 0, .non]) H3 (Ex.refl _) _ fun H4 e4 => ?_
  have e14 := e13.trans e4
  refine ⟨rfl, _, ⟨a, b, o, ps, rfl, ex_l e14 R.so, ex_l e14 R.sp, R.io, R.ip, rfl⟩, fun p H5 hp e5 hL => ?_⟩
  obtain ⟨as, hLp, hRows⟩ := hL
  have e15 := e14.trans e5
  have hal : as.length = ps.length := by rw [hRows.len, Lm.rd_len]
  refine ⟨p, rfl, ⟨_, SqL.of hLp⟩, ?_⟩
  have wb := (List.length_map V.ref ▸ walk_list (K := K) (a := p) (xs := as.map V.ref) : Walk (Itl K p) as.length _ _)
  refine ⟨fun i m ys σ' H' => m = as.length - i ∧ i ≤ as.length ∧ Ex H5 H' ∧ WalkOut H' ys o ps i ∧ ∃ v3, σ' = [some (.ref a), some (.ref b), some (.int (Lm.cur o 0 (ps.take i))), v3], ⟨as.length, by simp, Nat.zero_le _, Ex.refl _, ⟨rfl, fun i hi => absurd hi (by omega)⟩, none, rfl⟩, ?_⟩
  rintro i m ys σ' H' ⟨rfl, hi, e, hW, v3, rfl⟩
  have hLp' : SqL K H' p (as.map V.ref) := SqL.of (e _ _ hLp)
  by_cases hlt : i < as.length
  · refine .inr ⟨wb.goes i H' hlt hLp', fun ys' σ' H' => Ex H5 H' ∧ WalkOut H' ys' o ps (i + 1) ∧ ∃ v3, σ' = [some (.ref a), some (.ref b), some (.int (Lm.cur o 0 (ps.take (i + 1)))), v3], fun ys' σ'' H'' h => ⟨as.length - (i + 1), by omega, rfl, hlt, h.1, h.2.1, h.2.2⟩, fun x H'' y => ?_⟩
    obtain ⟨rfl, hx⟩ := wb.yields i H' x H'' hlt hLp' y
    rw [List.getElem?_map, List.getElem?_eq_getElem hlt] at hx
    obtain ⟨rs, hrs, hrow⟩ := hRows.get (List.getElem?_eq_getElem hlt)
    have hx2 : V.ref as[i] = x := Option.some.inj hx
    subst hx2
    obtain ⟨hrl, hcur⟩ := rd_get hrs
    have hol := R.io.len
    refine qg_asg (σ := [some (.ref a), some (.ref b), some (.int (Lm.cur o 0 (ps.take i))), some (.ref as[i])]) (v := .int (Lm.cur o 0 (ps.take (i + 1)))) ?_ fun H6 e6 => ?_
    · rw [hcur]
      exact ev_maxL (c := Lm.cur o 0 (ps.take i)) (ns := rs) (el_cat (xs := [.int (Lm.cur o 0 (ps.take i))]) (el_lst (ea_cons (ev_var rfl) ea_nil) (by show 1 ≤ 100000; decide)) (ev_var rfl) (e _ _ hrow) (by rw [List.length_map]; show 1 + _ ≤ _; omega))
    refine qg_yield (by rw [hW.1]; have := R.ip.len; omega) (eu_tup (ea_cons (ev_var (v := .ref as[i]) rfl) (ea_cons (ev_var (v := .int (Lm.cur o 0 (ps.take (i + 1)))) rfl) ea_nil)) (by show 2 ≤ 100000; decide)) fun T H7 hT e7 h7 => ?_
    refine ⟨(e.trans e6).trans e7, ⟨by rw [List.length_append, hW.1]; rfl, fun j hj => ?_⟩, _, rfl⟩
    by_cases hji : j < i
    · obtain ⟨T', r, rs', q1, q2, q3, q4⟩ := hW.2 j hji
      exact ⟨T', r, rs', by rw [List.getElem?_append_left (by rw [hW.1]; exact hji)]; exact q1, (e6.trans e7) _ _ q2, q3, (e6.trans e7) _ _ q4⟩
    · have : j = i := by omega
      subst this
      exact ⟨T, as[j], rs, by rw [List.getElem?_append_right (by rw [hW.1]; exact Nat.le_refl _), hW.1, Nat.sub_self]; rfl, h7, hrs, ((e.trans e6).trans e7) _ _ hrow⟩
  · have : i = as.length := by omega
    subst this
    refine .inl ⟨wb.stops H' hLp', ?_⟩
    rw [hal] at hW
    exact k ys H' (e15.trans e) hW
end
end Lp

/-! ## V8 -/
set_option Elab.async false
set_option linter.all false
set_option maxRecDepth 100000
set_option maxHeartbeats 4000000
/-! Reader. -/
namespace Lp
open PySem PySem.Spec PyProof.Rows L2 Evl
/-- all but S stays -/
def Ch (S : List Addr) (H H' : Hp) : Prop := ∀ a o, H a = some o → a ∉ S → H' a = some o
theorem Ch.of {S : List Addr} {H H' : Hp} (e : Ex H H') : Ch S H H' := fun a o h _ => e a o h
theorem Ch.trans {S : List Addr} {H H1 H2 : Hp} (a : Ch S H H1) (b : Ch S H1 H2) : Ch S H H2 := fun x o h n => b x o (a x o h n) n
theorem Ch.put {S : List Addr} {H H1 : Hp} {p : Addr} {u : HO} (a : Ch S H H1) (h : p ∈ S) : Ch S H (upd H1 p u) := fun x o e n => by
  rw [upd_ne fun z => n (by rw [z]; exact h)]
  exact a x o e n
theorem Ch.new {S : List Addr} {H H1 : Hp} {p : Addr} {u : HO} (a : Ch S H H1) (h : H p = none) : Ch S H (upd H1 p u) := fun x o e n => by
  rw [upd_ne fun z => by rw [z, h] at e; cases e]
  exact a x o e n
theorem Ch.more {S S' : List Addr} {H H' : Hp} (a : Ch S H H') (h : ∀ x ∈ S, x ∈ S' ∨ H x = none) : Ch S' H H' := fun x o e n => a x o e fun m => by
  rcases h x m with z | z
  · exact n z
  · rw [z] at e; cases e
theorem ex_ch {S : List Addr} {G H H' : Hp} (e : Ex G H) (c : Ch S H H') (h : ∀ a ∈ S, G a = none) : Ex G H' := fun a o g => c a o (e _ _ g) fun m => by
  rw [h a m] at g
  cases g
theorem ch_ex {S : List Addr} {H H' : Hp} (c : Ch S H H') (h : ∀ a ∈ S, H a = none) : Ex H H' := ex_ch (Ex.refl _) c h
section
variable {K : PySem.W.Frag} {σ : L2.St} {H H' : Hp} {ta tv : TE} {v : V} {a C dx : Addr} {fs : List (Str × V)} {f : Str} {D : Ends} {tz : TS} {xs : List V}
theorem ev_fld (ho : Ev ta σ H (.ref a)) (h : H a = some (.ins C dx fs)) (c : Cls K C) (n : NoAttr K C f) (hl : fs.lookup f = some v) : Ev (tFld K ta f) σ H v := by
  intro H1 e1 Q k
  exact ho H1 e1 _ fun H2 e2 => ⟨a, C, dx, fs, v, rfl, (e1.trans e2) _ _ h, c, n, hl, k H2 e2⟩
theorem s_fld (hv : Ev tv σ H v) (ho : Ev ta σ H (.ref a)) (h : H a = some (.ins C dx fs)) (c : Cls K C) (n : NoAttr K C f) (hl : fs.length < 1000) (k : ∀ H1, Ex H H1 → D.nx σ (upd H1 a (.ins C dx (putF f v fs)))) : sFld K ta tv f D σ H :=
  hv H (Ex.refl _) _ fun H1 e1 => ho H1 e1 _ fun H2 e2 => ⟨a, C, dx, fs, rfl, (e1.trans e2) _ _ h, c, n, hl, k H2 (e1.trans e2)⟩
theorem s_fldL (hv : EvL tv σ H xs) (ho : Ev ta σ H (.ref a)) (h : H a = some (.ins C dx fs)) (c : Cls K C) (n : NoAttr K C f) (hl : fs.length < 1000) (k : ∀ p H1, H p = none → Ex H H1 → H1 p = some (.lst xs) → D.nx σ (upd H1 a (.ins C dx (putF f (.ref p) fs)))) : sFld K ta tv f D σ H :=
  hv H (Ex.refl _) _ fun p H1 hp e1 h1 => ho H1 e1 _ fun H2 e2 => ⟨a, C, dx, fs, rfl, (e1.trans e2) _ _ h, c, n, hl, k p H2 hp (e1.trans e2) (e2 _ _ h1)⟩
theorem q_fld (hv : Ev tv σ H v) (ho : Ev ta σ H (.ref a)) (h : H a = some (.ins C dx fs)) (c : Cls K C) (n : NoAttr K C f) (hl : fs.length < 1000) (k : ∀ H1, Ex H H1 → tz D σ (upd H1 a (.ins C dx (putF f v fs)))) : tSeq (sFld K ta tv f) tz D σ H := s_fld (D := { D with nx := tz D }) hv ho h c n hl k
theorem q_fldL (hv : EvL tv σ H xs) (ho : Ev ta σ H (.ref a)) (h : H a = some (.ins C dx fs)) (c : Cls K C) (n : NoAttr K C f) (hl : fs.length < 1000) (k : ∀ p H1, H p = none → Ex H H1 → H1 p = some (.lst xs) → tz D σ (upd H1 a (.ins C dx (putF f (.ref p) fs)))) : tSeq (sFld K ta tv f) tz D σ H :=
  s_fldL (D := { D with nx := tz D }) hv ho h c n hl k
end
theorem pe_fldK {X : Cx} {K : PySem.W.Frag} {e : Expr} {f : Str} {pos : Pos} {ta : TE} (he : PE X e ta) (hb : attributeBase e f X.env (eval e X.env) = eval e X.env := by rfl) (hK : X.K = K := by rfl) : PE X (.Attribute e f pos) (tFld K ta f) := hK ▸ pe_fld he hb
theorem q_asgE {te : TE} {tz : TS} {D : Ends} {σ : L2.St} {H : Hp} {i : Nat} (h : te σ H fun v H1 => tz D (σ.set i (some v)) H1) : tSeq (tAsg te (gName i)) tz D σ H := h
theorem q_tupAsg {tc : TA} {g : TG} {tz : TS} {D : Ends} {σ : L2.St} {H : Hp} (h : tc σ H fun vs H1 => vs.length ≤ sizeLine ∧ ∀ T, H1 T = none → g (.ref T) σ (upd H1 T (.tup vs)) fun σ' H' => tz D σ' H') : tSeq (tAsg (tTup tc) g) tz D σ H := h
/-- x.f, x.g = a pair -/
theorem t_FF {K : PySem.W.Frag} {σ : L2.St} {H : Hp} {Q : L2.St → Hp → Prop} {i : Nat} {x C dx T : Addr} {fs : List (Str × V)} {f1 f2 : Str} {v1 v2 : V} (hσ : σ[i]? = some (some (.ref x))) (h : H x = some (.ins C dx fs)) (hT : H T = some (.tup [v1, v2])) (c : Cls K C) (n1 : NoAttr K C f1) (n2 : NoAttr K C f2) (hl : fs.length < 900)
    (hl2 : (putF f1 v1 fs).length < 1000) (k : Q σ (upd (upd H x (.ins C dx (putF f1 v1 fs))) x (.ins C dx (putF f2 v2 (putF f1 v1 fs))))) : gTup K 2 (gCons (Kx.gFld K (tVar i) f1) (gCons (Kx.gFld K (tVar i) f2) gNil)) (.ref T) σ H Q :=
  ⟨T, [v1, v2], rfl, SqT.of hT, rfl, v1, [v2], rfl, .ref x, hσ, x, C, dx, fs, rfl, h, c, n1, by omega, v2, [], rfl, .ref x, hσ, x, C, dx, _, rfl, upd_same, c, n2, hl2, rfl, k⟩
theorem q_ext {K : PySem.W.Frag} {σ : L2.St} {H : Hp} {ta tb : TE} {D : Ends} {tz : TS} {l b : Addr} {xs ys : List V} (ha : Ev ta σ H (.ref l)) (hb : Ev tb σ H (.ref b)) (hl : H l = some (.lst xs)) (h : H b = some (.lst ys)) (hz : xs.length + ys.length ≤ 100000)
    (k : ∀ H1, Ex H H1 → tz D σ (upd H1 l (.lst (xs ++ ys)))) : tSeq (tDrop (tBM K "list" rExtend ta (tCons tb tNil))) tz D σ H :=
  ha H (Ex.refl _) _ fun H1 e1 => ⟨.inl ⟨rfl, _, SqL.of (e1 _ _ hl)⟩, hb H1 e1 _ fun H2 e2 => ⟨l, b, xs, ys, rfl, rfl, (e1.trans e2) _ _ hl, (e1.trans e2) _ _ h, sz_of hz, k H2 (e1.trans e2)⟩⟩
section
variable {P : Program} {w : World} {K : PySem.W.Frag} {mg : Str → Option Value} {base : Heap}
/-! ### Reader -/
abbrev fsR (i : Addr) (c : Int) : List (Str × V) := [("kept_ids", .ref i), ("kept_cursor", .int c)]
def spRI (K : PySem.W.Frag) : Sp := fun vs H Q _ => ∃ x dx, vs = [.ref x] ∧ H x = some (.ins (He.ga K "Reader") dx []) ∧ ∀ i H', H i = none → Ch [x] H H' → H' x = some (.ins (He.ga K "Reader") dx (fsR i 0)) → H' i = some (.lst []) → Q .non H'
theorem sc_Reader_init : FnScope ["self"] ["self"] (defScope Lh.s_Reader_init) := ⟨rfl, rfl, rfl, by decide +kernel, rfl, by decide +kernel, by decide +kernel⟩
theorem ok_Reader_init (T : Facts K mg) : Mth P w K mg base "Reader" "__init__" 1 ["self"] (spRI K) := by
  obtain ⟨fd, F⟩ := T.fn 14
  refine ⟨⟨fd, go F sc_Reader_init ?_ fun cdv A outer s H vs Q E hr h => ?_, F.bindsN fun _ _ _ _ _ _ us hl => match us, hl with | [_], _ => rfl⟩⟩
  · rintro vs H Q E ⟨x, dx, rfl, _⟩
    rfl
  obtain ⟨x, dx, rfl, hx, k⟩ := h
  refine ⟨_, pss_cons (ps_fld (pv 0) (pe_lst pa_nil) rfl) (pss_one (ps_fld (pv 0) pe_int rfl)), ?_⟩
  refine q_fldL (xs := []) (el_lst ea_nil (by decide)) (ev_var rfl) hx (T.cls 64) (T.noat 66) (by decide) fun i H1 hi e1 h1 => ?_
  have hix : i ≠ x := fun e => by rw [e, hx] at hi; cases hi
  refine s_fld (v := .int 0) ev_c (ev_var (v := .ref x) rfl) upd_same (T.cls 64) (T.noat 67) (by show 1 < 1000; decide) fun H2 e2 => ?_
  refine k i _ hi (Ch.put (Ch.trans (Ch.put (Ch.of e1) (.head _)) (Ch.of e2)) (.head _)) upd_same ?_
  rw [upd_ne hix]
  exact e2 _ _ (by rw [upd_ne hix]; exact h1)
/-- Reader() -/
theorem e_newR {σ : L2.St} {H : Hp} {Q : VK} (k : ∀ x i dx H', H x = none → H i = none → x ≠ i → Ex H H' → H' x = some (.ins (He.ga K "Reader") dx (fsR i 0)) → H' i = some (.lst []) → Q (.ref x) H') : tMake (He.ga K "Reader") (spRI K) [] E0 tNil σ H Q := by
  intro x dx hx hdx hne
  refine ⟨x, dx, rfl, upd_same, fun i H' hi hc h1 h2 => ⟨rfl, ?_⟩⟩
  have hix : x ≠ i := fun e => by rw [← e, upd_same] at hi; cases hi
  have hid : i ≠ dx := fun e => by rw [e, upd_ne hne, upd_same] at hi; cases hi
  have hi0 : H i = none := by rw [upd_ne hix.symm, upd_ne hid] at hi; exact hi
  refine k x i dx H' hx hi0 hix (fun a o e => ?_) h1 h2
  have ax : a ≠ x := fun z => by rw [z, hx] at e; cases e
  have ad : a ≠ dx := fun z => by rw [z, hdx] at e; cases e
  refine hc a o ?_ (by simpa using ax)
  rw [upd_ne ax, upd_ne ad]
  exact e
/-! got -/
def spGot (K : PySem.W.Frag) : Sp := fun vs H Q _ => ∃ (r v i dx : Addr) (c : Int) (ids o : List Int), vs = [.ref r, .ref v] ∧ H r = some (.ins (He.ga K "Reader") dx (fsR i c)) ∧ H i = some (.lst (ids.map V.int)) ∧ SqL K H v (o.map V.int) ∧ ids.length ≤ 1000 ∧ o.length ≤ 1000 ∧
  ∀ p H', H p = none → Ch [r, i] H H' → H' p = some (.lst ((Lm.srt (o.filter fun x => decide (c < x))).map V.int)) → H' r = some (.ins (He.ga K "Reader") dx (fsR i (Lm.mxl c (Lm.srt (o.filter fun x => decide (c < x)))))) →
    H' i = some (.lst ((ids ++ Lm.srt (o.filter fun x => decide (c < x))).map V.int)) → Q (.ref p) H'
def nmGot : List Str := ["self", "visible", "found", "row"]
theorem sc_Reader_got : FnScope nmGot ["self", "visible"] (defScope Lh.s_Reader_got) := ⟨rfl, rfl, rfl, by decide +kernel, rfl, by decide +kernel, by decide +kernel⟩
theorem ok_Reader_got (T : Facts K mg) : Mth P w K mg base "Reader" "got" 1 ["self", "visible"] (spGot K) := by
  obtain ⟨fd, F⟩ := T.fn 15
  refine ⟨⟨fd, go F sc_Reader_got ?_ fun cdv A outer s H vs Q E hr h => ?_, F.bindsN fun _ _ _ _ _ _ us hl => match us, hl with | [_, _], _ => rfl⟩⟩
  · rintro vs H Q E ⟨r, v, i, dx, c, ids, o, rfl, _⟩
    rfl
  obtain ⟨r, v, i, dx, c, ids, o, rfl, hR, hi, hv, hil, hol, k⟩ := h
  have nd := sc_Reader_got.nd
  refine ⟨_, pss_cons (ps_set (i := 2) nd rfl (Or.inl rfl) (pe_callB cr_sortedI rfl T.n_sorted boot_sorted (pa_cons (pe_lc (own := [("row", 3)]) (g := gName 3) rfl nd (pi_list (pv 1)) (blkOk_by (own := [("row", 3)]) (N := nmGot) (sc := defScope Lh.s_Reader_got) (by decide +kernel))
      (fun _ _ _ _ _ => pg_name (i := 3) nd rfl (Or.inl rfl)) (fun _ _ _ _ _ => pts_one (pt_cmpR op_gt (pv 3) (pe_fldK (K := K) (pv 0)) (nomark _))) (fun _ _ _ _ _ => pv 3)) pa_nil)))
    (pss_cons (ps_expr (pe_bm PySem.F.plainAttrs_list PySem.F.slot_list_extend PySem.F.type_list_extend mt_extend (pe_fld (pv 0) rfl) (pa_cons (pv 2) pa_nil)))
    (pss_cons (ps_fld (pv 0) (pe_callB (cr_max rfl) rfl T.n_max boot_max (pa_cons (pe_op op_cat (pe_lst (pa_cons (pe_fld (pv 0) rfl) pa_nil)) (pv 2)) pa_nil)) rfl)
    (pss_one (ps_ret (pv 2))))), ?_⟩
  refine q_asgL (xs := (Lm.srt (o.filter fun x => decide (c < x))).map V.int) (el_sortedN (el_flt (em := V.int) (fun x => decide (c < x)) (ev_var (v := .ref v) rfl) hv (by omega) (fun x => rfl) (fun x => rfl) fun x hx H1 e => et_test (ev_op (ev_var rfl) (ev_fld (ev_var (v := .ref r) rfl) (e _ _ hR) (T.cls 64) (T.noat 67) rfl) rv_I0))) fun p H1 hp e1 h1 => ?_
  generalize hfo : Lm.srt (o.filter fun x => decide (c < x)) = fo at *
  have hfl : fo.length ≤ 1000 := by
    rw [← hfo, Lm.srt_len]
    exact Nat.le_trans (List.length_filter_le _ _) hol
  have hri : r ≠ i := fun e => by rw [e, hi] at hR; cases hR
  have hpi : p ≠ i := fun e => by rw [e, hi] at hp; cases hp
  have hpr : p ≠ r := fun e => by rw [e, hR] at hp; cases hp
  refine q_ext (ev_fld (ev_var (v := .ref r) rfl) (e1 _ _ hR) (T.cls 64) (T.noat 66) rfl) (ev_var (v := .ref p) rfl) (e1 _ _ hi) h1 (by rw [List.length_map, List.length_map]; omega) fun H2 e2 => ?_
  have hR2 : upd H2 i (.lst (ids.map V.int ++ fo.map V.int)) r = some (.ins (He.ga K "Reader") dx (fsR i c)) := by
    rw [upd_ne hri]
    exact (e1.trans e2) _ _ hR
  have hp2 : upd H2 i (.lst (ids.map V.int ++ fo.map V.int)) p = some (.lst (fo.map V.int)) := by
    rw [upd_ne hpi]
    exact e2 _ _ h1
  refine q_fld (v := .int (Lm.mxl c fo)) (ev_maxL (c := c) (ns := fo) (el_cat (xs := [.int c]) (el_lst (ea_cons (ev_fld (ev_var (v := .ref r) rfl) hR2 (T.cls 64) (T.noat 67) rfl) ea_nil) (by show 1 ≤ 100000; decide)) (ev_var rfl) hp2 (by rw [List.length_map]; show 1 + _ ≤ _; omega))) (ev_var (v := .ref r) rfl) hR2 (T.cls 64) (T.noat 67) (by show 2 < 1000; decide) fun H3 e3 => ?_
  refine s_ret (ev_var (v := .ref p) rfl) fun H4 e4 => ?_
  refine k p H4 hp (Ch.trans (Ch.put (Ch.trans (Ch.put (Ch.of (e1.trans e2)) (.tail _ (.head _))) (Ch.of e3)) (.head _)) (Ch.of e4)) (e4 _ _ (by rw [upd_ne hpr]; exact e3 _ _ hp2)) (e4 _ _ upd_same) (e4 _ _ ?_)
  rw [upd_ne hri.symm, List.map_append]
  exact e3 _ _ upd_same
/-! doubled -/
def spDbl (K : PySem.W.Frag) : Sp := fun vs H Q _ => ∃ (r i dx : Addr) (c : Int) (ids : List Int), vs = [.ref r] ∧ H r = some (.ins (He.ga K "Reader") dx (fsR i c)) ∧ H i = some (.lst (ids.map V.int)) ∧ ids.length ≤ 1000 ∧
  ∀ x j dy H', H x = none → H j = none → x ≠ j → Ex H H' → H' x = some (.ins (He.ga K "Reader") dy (fsR j c)) → H' j = some (.lst (ids.map V.int)) → Q (.ref x) H'
theorem sc_Reader_doubled : FnScope ["self", "found"] ["self"] (defScope Lh.s_Reader_doubled) := ⟨rfl, rfl, rfl, by decide +kernel, rfl, by decide +kernel, by decide +kernel⟩
theorem ok_Reader_doubled (T : Facts K mg) : Mth P w K mg base "Reader" "doubled" 3 ["self"] (spDbl K) := by
  obtain ⟨fd, F⟩ := T.fn 16
  refine ⟨⟨fd, go F sc_Reader_doubled ?_ fun cdv A outer s H vs Q E hr h => ?_, F.bindsN fun _ _ _ _ _ _ us hl => match us, hl with | [_], _ => rfl⟩⟩
  · rintro vs H Q E ⟨r, i, dx, c, ids, rfl, _⟩
    rfl
  obtain ⟨r, i, dx, c, ids, rfl, hR, hi, hil, k⟩ := h
  have nd := sc_Reader_doubled.nd
  refine ⟨_, pss_cons (ps_set (i := 1) nd rfl (Or.inl rfl) (pe_new0 (ok_Reader_init T) (T.mkr 65) (T.glo 32) hr))
    (pss_cons (ps_asg (pe_tup (pa_cons (pe_callTy call_list_of rfl T.n_list boot_list (pa_cons (pe_fld (pv 0) rfl) pa_nil)) (pa_cons (pe_fld (pv 0) rfl) pa_nil))) (pg_tup rfl (pgs_cons (Kx.pg_fld (pv 1)) (pgs_cons (Kx.pg_fld (pv 1)) pgs_nil))))
    (pss_one (ps_ret (pv 1)))), ?_⟩
  refine q_asgE (e_newR fun x j dy H1 hx hj hxj e1 h1 h2 => ?_)
  have hR1 := e1 _ _ hR
  have hi1 := e1 _ _ hi
  have hxr : x ≠ r := fun e => by rw [e, hR] at hx; cases hx
  have hxi : x ≠ i := fun e => by rw [e, hi] at hx; cases hx
  refine q_tupAsg (cons_in ?_)
  refine (el_list (ev_fld (ev_var (v := .ref r) (i := 0) rfl) hR1 (T.cls 64) (T.noat 66) rfl) (SqL.of hi1) : EvL _ [some (.ref r), some (.ref x)] H1 _) H1 (Ex.refl _) _ fun q H2 hq e2 h3 => cons_in ?_
  refine (ev_fld (ev_var (v := .ref r) (i := 0) rfl) (e2 _ _ hR1) (T.cls 64) (T.noat 67) rfl : Ev _ [some (.ref r), some (.ref x)] H2 (.int c)) H2 (Ex.refl _) _ fun H3 e3 => ⟨by show 2 ≤ sizeLine; decide, fun Tt hT => ?_⟩
  have e13 : Ex H1 (upd H3 Tt (.tup [.ref q, .int c])) := (e2.trans e3).trans (Ex.new hT)
  refine t_FF (x := x) (i := 1) rfl (e13 _ _ h1) upd_same (T.cls 64) (T.noat 66) (T.noat 67) (by show 2 < 900; decide) (by show 2 < 1000; decide) ?_
  refine s_ret (σ := [some (.ref r), some (.ref x)]) (ev_var (v := .ref x) (i := 1) rfl) fun H4 e4 => ?_
  have hqx : q ≠ x := fun e => by rw [e, h1] at hq; cases hq
  refine k x q dy H4 hx (fresh_back e1 hq) hqx.symm ((Ex.mut (Ex.mut (e1.trans e13) hx) hx).trans e4) (e4 _ _ upd_same) (e4 _ _ ?_)
  rw [upd_ne hqx, upd_ne hqx]
  exact (e3.trans (Ex.new hT)) _ _ h3
end
end Lp

/-! ## V9 -/
set_option Elab.async false
set_option linter.all false
set_option maxRecDepth 100000
set_option maxHeartbeats 4000000
/-! State. -/
namespace Lp
open PySem PySem.Spec PyProof.Rows L2 Evl
/-! ### new objects -/
def EvN (te : TE) (σ : L2.St) (H : Hp) (u : HO) : Prop := ∀ H1, Ex H H1 → ∀ Q : VK, (∀ p H2, H1 p = none → Ex H1 H2 → H2 p = some u → Q (.ref p) H2) → te σ H1 Q
section
variable {K : PySem.W.Frag} {σ : L2.St} {H H' : Hp} {ta tv : TE} {v : V} {a C dx : Addr} {fs : List (Str × V)} {f : Str} {D : Ends} {tz : TS} {xs : List V} {u : HO}
theorem en_dnew : EvN tDNewK σ H (.dK []) := fun H1 _ _ k p hp => k p _ hp (Ex.new hp) upd_same
theorem en_l (h : EvL ta σ H xs) : EvN ta σ H (.lst xs) := h
theorem q_fldN (hv : EvN tv σ H u) (ho : Ev ta σ H (.ref a)) (h : H a = some (.ins C dx fs)) (c : Cls K C) (n : NoAttr K C f) (hl : fs.length < 1000) (k : ∀ p H1, H p = none → Ex H H1 → H1 p = some u → tz D σ (upd H1 a (.ins C dx (putF f (.ref p) fs)))) : tSeq (sFld K ta tv f) tz D σ H :=
  hv H (Ex.refl _) _ fun p H1 hp e1 h1 => ho H1 e1 _ fun H2 e2 => ⟨a, C, dx, fs, rfl, (e1.trans e2) _ _ h, c, n, hl, k p H2 hp (e1.trans e2) (e2 _ _ h1)⟩
theorem s_fldN (hv : EvN tv σ H u) (ho : Ev ta σ H (.ref a)) (h : H a = some (.ins C dx fs)) (c : Cls K C) (n : NoAttr K C f) (hl : fs.length < 1000) (k : ∀ p H1, H p = none → Ex H H1 → H1 p = some u → D.nx σ (upd H1 a (.ins C dx (putF f (.ref p) fs)))) : sFld K ta tv f D σ H :=
  hv H (Ex.refl _) _ fun p H1 hp e1 h1 => ho H1 e1 _ fun H2 e2 => ⟨a, C, dx, fs, rfl, (e1.trans e2) _ _ h, c, n, hl, k p H2 hp (e1.trans e2) (e2 _ _ h1)⟩
/-- dict(d) -/
theorem en_dict {d : Addr} {kvs : List (Key × V)} (ha : Ev ta σ H (.ref d)) (h : H d = some (.dK kvs)) : EvN (tCB (fun xs H Q => ∃ (a : Addr) (kvs : List (Key × V)), xs = [.ref a] ∧ Rd H a (.dK kvs) ∧ ∀ p, H p = none → Q (.ref p) (upd H p (.dK kvs))) (tCons ta tNil)) σ H (.dK kvs) := by
  intro H1 e1 Q q
  exact ha H1 e1 _ fun H2 e2 => ⟨d, kvs, rfl, .inl ((e1.trans e2) _ _ h), fun p hp => q p _ (fresh_back e2 hp) (e2.trans (Ex.new hp)) upd_same⟩
end
/-! ### the states of a table -/
structure SA where
  S : Addr
  O : Addr
  D : Addr
  R : Addr
  E : Addr
  rd : Option (Addr × Addr)
def SA.rds : Option (Addr × Addr) → List Addr
  | none => []
  | some (r, i) => [r, i]
def SA.own (y : SA) : List Addr := [y.S, y.O, y.D, y.R, y.E] ++ SA.rds y.rd
structure SS where
  b : Int
  op : List Int
  ord : List Int
  rd : Option (List Int × Int)
  ev : Nat
abbrev s0 : SS := ⟨0, [], [], none, 0⟩
abbrev fsS (y : SA) (b : Int) : List (Str × V) := [("kept_begun", .int b), ("kept_open", .ref y.O), ("kept_order", .ref y.D), ("kept_readers", .ref y.R), ("kept_events", .ref y.E)]
def RdAt (K : PySem.W.Frag) (H : Hp) (R : Addr) : Option (Addr × Addr) → Option (List Int × Int) → Prop
  | none, none => H R = some (.dK [])
  | some (r, i), some (ids, c) => H R = some (.dK [(Sum.inr "a", .ref r)]) ∧ (∃ dx, H r = some (.ins (He.ga K "Reader") dx (fsR i c))) ∧ H i = some (.lst (ids.map V.int))
  | _, _ => False
structure StAt (K : PySem.W.Frag) (H : Hp) (y : SA) (s : SS) : Prop where
  S : ∃ dx, H y.S = some (.ins (He.ga K "State") dx (fsS y s.b))
  O : H y.O = some (.dK (trues s.op))
  D : H y.D = some (.lst (s.ord.map V.int))
  E : ∃ evs, H y.E = some (.lst evs) ∧ evs.length = s.ev
  R : RdAt K H y.R y.rd s.rd
  nd : y.own.Nodup
theorem RdAt.ex {K : PySem.W.Frag} {H H' : Hp} {R : Addr} {rd : Option (Addr × Addr)} {q : Option (List Int × Int)} (e : Ex H H') (h : RdAt K H R rd q) : RdAt K H' R rd q := by
  cases rd with
  | none =>
    cases q with
    | none => exact e _ _ h
    | some q => exact h.elim
  | some p =>
    cases q with
    | none => exact h.elim
    | some q =>
      obtain ⟨h1, ⟨dx, h2⟩, h3⟩ := h
      exact ⟨e _ _ h1, ⟨dx, e _ _ h2⟩, e _ _ h3⟩
theorem StAt.ex {K : PySem.W.Frag} {H H' : Hp} {y : SA} {s : SS} (e : Ex H H') (h : StAt K H y s) : StAt K H' y s := by
  obtain ⟨⟨dx, h1⟩, h2, h3, ⟨evs, h4, h5⟩, h6, h7⟩ := h
  exact ⟨⟨dx, e _ _ h1⟩, e _ _ h2, e _ _ h3, ⟨evs, e _ _ h4, h5⟩, h6.ex e, h7⟩
section
variable {P : Program} {w : World} {K : PySem.W.Frag} {mg : Str → Option Value} {base : Heap}
def spSI (K : PySem.W.Frag) : Sp := fun vs H Q _ => ∃ x dx, vs = [.ref x] ∧ H x = some (.ins (He.ga K "State") dx []) ∧ ∀ y H', y.S = x → (∀ a ∈ y.own, a = x ∨ H a = none) → Ch [x] H H' → StAt K H' y s0 → Q .non H'
theorem sc_State_init : FnScope ["self"] ["self"] (defScope Lh.s_State_init) := ⟨rfl, rfl, rfl, by decide +kernel, rfl, by decide +kernel, by decide +kernel⟩
theorem ok_State_init (T : Facts K mg) : Mth P w K mg base "State" "__init__" 1 ["self"] (spSI K) := by
  obtain ⟨fd, F⟩ := T.fn 17
  refine ⟨⟨fd, go F sc_State_init ?_ fun cdv A outer s H vs Q E hr h => ?_, F.bindsN fun _ _ _ _ _ _ us hl => match us, hl with | [_], _ => rfl⟩⟩
  · rintro vs H Q E ⟨x, dx, rfl, _⟩
    rfl
  obtain ⟨x, dx, rfl, hx, k⟩ := h
  refine ⟨_, pss_cons (ps_fld (pv 0) pe_int rfl) (pss_cons (ps_fld (pv 0) pe_dnewK rfl) (pss_cons (ps_fld (pv 0) (pe_lst pa_nil) rfl) (pss_cons (ps_fld (pv 0) pe_dnewK rfl) (pss_one (ps_fld (pv 0) (pe_lst pa_nil) rfl))))), ?_⟩
  -- what is known of the rest: G
  refine q_fld (v := .int 0) ev_c (ev_var (v := .ref x) rfl) hx (T.cls 70) (T.noat 72) (by decide) fun H1 e1 => ?_
  refine q_fldN en_dnew (ev_var (v := .ref x) rfl) upd_same (T.cls 70) (T.noat 73) (by show 1 < 1000; decide) fun O H2 hO e2 h2 => ?_
  refine q_fldN (en_l (xs := []) (el_lst ea_nil (by decide))) (ev_var (v := .ref x) rfl) upd_same (T.cls 70) (T.noat 74) (by show 2 < 1000; decide) fun D H3 hD e3 h3 => ?_
  refine q_fldN en_dnew (ev_var (v := .ref x) rfl) upd_same (T.cls 70) (T.noat 75) (by show 3 < 1000; decide) fun R H4 hR e4 h4 => ?_
  refine s_fldN (en_l (xs := []) (el_lst ea_nil (by decide))) (ev_var (v := .ref x) rfl) upd_same (T.cls 70) (T.noat 76) (by show 4 < 1000; decide) fun EE H5 hE e5 h5 => ?_
  have nx : ∀ {p : Addr} {Hq : Hp} {o : HO}, upd Hq x o p = none → p ≠ x := fun h e => by rw [e, upd_same] at h; cases h
  have dn : ∀ {p : Addr} {Hq : Hp} {o : HO}, upd Hq x o p = none → Hq p = none := fun {p Hq o} h => by rw [upd_ne (nx h)] at h; exact h
  have nO := nx hO
  have nD := nx hD
  have nR := nx hR
  have nE := nx hE
  have c1 : Ch [x] H (upd H1 x (.ins (He.ga K "State") dx (putF "kept_begun" (.int 0) []))) := (Ch.of e1).put (.head _)
  have c2 := (c1.trans (Ch.of e2)).put (u := .ins (He.ga K "State") dx (putF "kept_open" (.ref O) (putF "kept_begun" (.int 0) []))) (p := x) (.head _)
  have c3 := (c2.trans (Ch.of e3)).put (u := .ins (He.ga K "State") dx (putF "kept_order" (.ref D) (putF "kept_open" (.ref O) (putF "kept_begun" (.int 0) [])))) (p := x) (.head _)
  have c4 := (c3.trans (Ch.of e4)).put (u := .ins (He.ga K "State") dx (putF "kept_readers" (.ref R) (putF "kept_order" (.ref D) (putF "kept_open" (.ref O) (putF "kept_begun" (.int 0) []))))) (p := x) (.head _)
  have c5 := (c4.trans (Ch.of e5)).put (u := .ins (He.ga K "State") dx (putF "kept_events" (.ref EE) (putF "kept_readers" (.ref R) (putF "kept_order" (.ref D) (putF "kept_open" (.ref O) (putF "kept_begun" (.int 0) [])))))) (p := x) (.head _)
  have fr : ∀ {p : Addr} {Hq : Hp}, Ch [x] H Hq → Hq p = none → p ≠ x → H p = none := fun {p Hq} c h n => by
    cases e : H p with
    | none => rfl
    | some o => rw [c p o e (by simpa using n)] at h; cases h
  have O3 : upd H2 x (.ins (He.ga K "State") dx (putF "kept_open" (.ref O) (putF "kept_begun" (.int 0) []))) O = some (.dK []) := by rw [upd_ne nO]; exact h2
  have O4 : upd H3 x (.ins (He.ga K "State") dx (putF "kept_order" (.ref D) (putF "kept_open" (.ref O) (putF "kept_begun" (.int 0) [])))) O = some (.dK []) := by rw [upd_ne nO]; exact e3 _ _ O3
  have D4 : upd H3 x (.ins (He.ga K "State") dx (putF "kept_order" (.ref D) (putF "kept_open" (.ref O) (putF "kept_begun" (.int 0) [])))) D = some (.lst []) := by rw [upd_ne nD]; exact h3
  have O5 : upd H4 x (.ins (He.ga K "State") dx (putF "kept_readers" (.ref R) (putF "kept_order" (.ref D) (putF "kept_open" (.ref O) (putF "kept_begun" (.int 0) []))))) O = some (.dK []) := by rw [upd_ne nO]; exact e4 _ _ O4
  have D5 : upd H4 x (.ins (He.ga K "State") dx (putF "kept_readers" (.ref R) (putF "kept_order" (.ref D) (putF "kept_open" (.ref O) (putF "kept_begun" (.int 0) []))))) D = some (.lst []) := by rw [upd_ne nD]; exact e4 _ _ D4
  have R5 : upd H4 x (.ins (He.ga K "State") dx (putF "kept_readers" (.ref R) (putF "kept_order" (.ref D) (putF "kept_open" (.ref O) (putF "kept_begun" (.int 0) []))))) R = some (.dK []) := by rw [upd_ne nR]; exact h4
  have ne' : ∀ {p q : Addr} {Hq : Hp} {o : HO}, Hq p = some o → Hq q = none → p ≠ q := fun h1 h2 => ne_of_none h1 h2
  refine k ⟨x, O, D, R, EE, none⟩ _ rfl (fun a ha => ?_) c5 ⟨⟨dx, upd_same⟩, ?_, ?_, ⟨[], ?_, rfl⟩, ?_, ?_⟩
  · have ha : a ∈ [x, O, D, R, EE] := ha
    simp only [List.mem_cons, List.not_mem_nil, or_false] at ha
    rcases ha with rfl | rfl | rfl | rfl | rfl
    · exact .inl rfl
    · exact .inr (fr c1 hO nO)
    · exact .inr (fr c2 hD nD)
    · exact .inr (fr c3 hR nR)
    · exact .inr (fr c4 hE nE)
  · show upd H5 x _ O = _
    rw [upd_ne nO]
    exact e5 _ _ O5
  · show upd H5 x _ D = _
    rw [upd_ne nD]
    exact e5 _ _ D5
  · show upd H5 x _ EE = _
    rw [upd_ne nE]
    exact h5
  · show upd H5 x _ R = _
    rw [upd_ne nR]
    exact e5 _ _ R5
  · show [x, O, D, R, EE].Nodup
    have a1 := ne' O3 hD
    have a2 := ne' O4 hR
    have a3 := ne' D4 hR
    have a4 := ne' O5 hE
    have a5 := ne' D5 hE
    have a6 := ne' R5 hE
    simp only [List.nodup_cons, List.mem_cons, List.not_mem_nil, or_false, not_or, List.nodup_nil, and_true, not_false_eq_true]
    exact ⟨⟨nO.symm, nD.symm, nR.symm, nE.symm⟩, ⟨a1, a2, a4⟩, ⟨a3, a5⟩, a6⟩
/-- State() -/
theorem e_newS {σ : L2.St} {H : Hp} {Q : VK} (k : ∀ y H', (∀ a ∈ y.own, H a = none) → Ex H H' → StAt K H' y s0 → Q (.ref y.S) H') : tMake (He.ga K "State") (spSI K) [] E0 tNil σ H Q := by
  intro x dx hx hdx hne
  refine ⟨x, dx, rfl, upd_same, fun y H' hy hf hc hS => ⟨rfl, ?_⟩⟩
  have e : Ex H H' := fun a o e => by
    have ax : a ≠ x := fun z => by rw [z, hx] at e; cases e
    have ad : a ≠ dx := fun z => by rw [z, hdx] at e; cases e
    refine hc a o ?_ (by simpa using ax)
    rw [upd_ne ax, upd_ne ad]
    exact e
  subst hy
  refine k y H' (fun a ha => ?_) e hS
  rcases hf a ha with z | z
  · rw [z]; exact hx
  · have hax : a ≠ y.S := fun e => by rw [e, upd_same] at z; cases z
    have had : a ≠ dx := fun e => by rw [e, upd_ne hne, upd_same] at z; cases z
    rw [upd_ne hax, upd_ne had] at z
    exact z
end
end Lp

/-! ## V10 -/
set_option Elab.async false
set_option linter.all false
set_option maxRecDepth 100000
set_option maxHeartbeats 4000000
/-! State.doubled. -/
namespace Lp
open PySem PySem.Spec PyProof.Rows L2 Evl
section
variable {P : Program} {w : World} {K : PySem.W.Frag} {mg : Str → Option Value} {base : Heap}
structure Bd (s : SS) : Prop where
  op : s.op.length ≤ 100
  ord : s.ord.length ≤ 100
  ids : ∀ q, s.rd = some q → q.1.length ≤ 1000
  ev : s.ev ≤ 100
/-- {name: reader.doubled() for name, reader in self.kept_readers.items()} -/
theorem e_readers (T : Facts K mg) {H : Hp} {Q : VK} {y : SA} {s : SS} {v1 v2 v3 : Option V} (hS : StAt K H y s) (B : Bd s)
    (k : ∀ R' rd' H', H R' = none → (∀ a ∈ SA.rds rd', H a = none) → (R' :: SA.rds rd').Nodup → Ex H H' → RdAt K H' R' rd' s.rd → Q (.ref R') H') :
    tLockE (tDc (iItems (tFld K (tVar 0) "kept_readers")) (gTup K 2 (gCons (gName 2) (gCons (gName 3) gNil))) tYes (tVar 2) (tMeth (He.ga K "Reader") "doubled" (spDbl K) [] E0 (tVar 3) tNil) [2, 3]) [some (.ref y.S), v1, v2, v3] H Q := by
  obtain ⟨dx, h1⟩ := hS.S
  have hR := hS.R
  have hnd := hS.nd
  have hSR : y.S ≠ y.R := by
    intro e
    have : [y.S, y.O, y.D, y.R, y.E].Nodup := (List.nodup_append.mp hnd).1
    simp [e] at this
  cases hrd : y.rd with
  | none =>
    cases hq : s.rd with
    | some q => rw [hrd, hq] at hR; exact hR.elim
    | none =>
      rw [hrd, hq] at hR
      have hR : H y.R = some (.dK []) := hR
      refine ⟨y.R, _, hR, trivial, fun ob => ?_⟩
      refine ⟨.ref y.S, rfl, y.S, _, dx, _, .ref y.R, rfl, by rw [upd_ne hSR]; exact h1, T.cls 70, T.noat 75, rfl, y.R, ob, [], rfl, upd_same, fun Dn hD => ?_⟩
      have hDR : Dn ≠ y.R := fun e => by rw [e, upd_same] at hD; cases hD
      have hD0 : H Dn = none := by rw [upd_ne hDR] at hD; exact hD
      refine ⟨fun i m H' => i = 0 ∧ H' = upd (upd H y.R (.frz ob (.dK []))) Dn (.dK []), ⟨0, rfl, rfl⟩, ?_⟩
      rintro i m H' ⟨rfl, rfl⟩
      have hf : upd (upd H y.R (.frz ob (.dK []))) Dn (.dK []) y.R = some (.frz ob (.dK [])) := by rw [upd_ne hDR.symm, upd_same]
      refine .inl ⟨⟨hf, Nat.le_refl _⟩, hf, ?_⟩
      refine k Dn none _ hD0 (fun a ha => absurd ha (List.not_mem_nil)) (by show [Dn].Nodup; simp) (fun a o e => ?_) ?_
      · by_cases ha : a = y.R
        · rw [ha, upd_same, ← hR, ← ha]
          exact e
        · have hd : a ≠ Dn := fun z => by rw [z, hD0] at e; cases e
          rw [upd_ne ha, upd_ne hd, upd_ne ha]
          exact e
      · rw [hq]
        show upd _ y.R _ Dn = _
        rw [upd_ne hDR, upd_same]
  | some p =>
    obtain ⟨r, i⟩ := p
    cases hq : s.rd with
    | none => rw [hrd, hq] at hR; exact hR.elim
    | some q =>
      obtain ⟨ids, c⟩ := q
      rw [hrd, hq] at hR
      obtain ⟨hR, ⟨dr, hr⟩, hi⟩ := hR
      have hil := B.ids _ hq
      refine ⟨y.R, _, hR, trivial, fun ob => ?_⟩
      refine ⟨.ref y.S, rfl, y.S, _, dx, _, .ref y.R, rfl, by rw [upd_ne hSR]; exact h1, T.cls 70, T.noat 75, rfl, y.R, ob, _, rfl, upd_same, fun Dn hD => ?_⟩
      have hDR : Dn ≠ y.R := fun e => by rw [e, upd_same] at hD; cases hD
      have hD0 : H Dn = none := by rw [upd_ne hDR] at hD; exact hD
      generalize hHL : upd H y.R (.frz ob (.dK [(Sum.inr "a", .ref r)])) = HL at *
      have hLR : HL y.R = some (.frz ob (.dK [(Sum.inr "a", .ref r)])) := by rw [← hHL, upd_same]
      have hLr : HL r = some (.ins (He.ga K "Reader") dr (fsR i c)) := by
        rw [← hHL, upd_ne fun e => by rw [e, hR] at hr; cases hr]
        exact hr
      have hLi : HL i = some (.lst (ids.map V.int)) := by
        rw [← hHL, upd_ne fun e => by rw [e, hR] at hi; cases hi]
        exact hi
      refine ⟨fun n m H' => (n = 0 ∧ m = 1 ∧ H' = upd HL Dn (.dK [])) ∨ (n = 1 ∧ m = 0 ∧ ∃ r' j dy, HL r' = none ∧ HL j = none ∧ r' ≠ j ∧ r' ≠ Dn ∧ j ≠ Dn ∧ Ex HL H' ∧ H' Dn = some (.dK [(Sum.inr "a", .ref r')]) ∧ H' r' = some (.ins (He.ga K "Reader") dy (fsR j c)) ∧ H' j = some (.lst (ids.map V.int))), ⟨1, .inl ⟨rfl, rfl, rfl⟩⟩, ?_⟩
      rintro n m H' (⟨rfl, rfl, rfl⟩ | ⟨rfl, rfl, r', j, dy, f1, f2, f3, f4, f5, f6, f7, f8, f9⟩)
      · have hf : upd HL Dn (.dK []) y.R = some (.frz ob (.dK [(Sum.inr "a", .ref r)])) := by rw [upd_ne hDR.symm, hLR]
        refine .inr ⟨⟨hf, by show 0 < 1; decide⟩, fun H' => ∃ r' j dy, HL r' = none ∧ HL j = none ∧ r' ≠ j ∧ r' ≠ Dn ∧ j ≠ Dn ∧ Ex HL H' ∧ H' Dn = some (.dK [(Sum.inr "a", .ref r')]) ∧ H' r' = some (.ins (He.ga K "Reader") dy (fsR j c)) ∧ H' j = some (.lst (ids.map V.int)), fun H' h => ⟨0, by decide, .inr ⟨rfl, rfl, h⟩⟩, ?_⟩
        rintro x H'' ⟨Tt, kk, vv, hk, rfl, hT, rfl⟩
        cases hk
        refine g_pair upd_same ⟨rfl, ?_⟩
        simp only [tYes, if_true]
        refine ⟨.str "a", rfl, ?_⟩
        have e0 : Ex HL (upd (upd HL Dn (.dK [])) Tt (.tup [kV (Sum.inr "a"), .ref r])) := (Ex.new hD).trans (Ex.new hT)
        refine ⟨.ref r, rfl, r, dr, fsR i c, rfl, e0 _ _ hLr, rfl, r, i, dr, c, ids, rfl, e0 _ _ hLr, e0 _ _ hLi, hil, fun r' j dy H5 g1 g2 g3 e5 g4 g5 => ?_⟩
        have hTD : Tt ≠ Dn := fun e => by rw [e, upd_same] at hT; cases hT
        have hD5 : H5 Dn = some (.dK []) := e5 _ _ (by rw [upd_ne hTD.symm, upd_same])
        have hrD : r' ≠ Dn := fun e => by rw [e, upd_ne hTD.symm, upd_same] at g1; cases g1
        have hjD : j ≠ Dn := fun e => by rw [e, upd_ne hTD.symm, upd_same] at g2; cases g2
        refine ⟨[], Sum.inr "a", rfl, hD5, by decide, r', j, dy, fresh_back e0 g1, fresh_back e0 g2, g3, hrD, hjD, Ex.mut (e0.trans e5) hD, upd_same, ?_, ?_⟩
        · rw [upd_ne hrD]
          exact g4
        · rw [upd_ne hjD]
          exact g5
      · refine .inl ⟨⟨f6 _ _ hLR, Nat.le_refl _⟩, f6 _ _ hLR, ?_⟩
        have hnone : ∀ {a : Addr}, HL a = none → H a = none ∧ a ≠ y.R := fun {a} h => by
          have ha : a ≠ y.R := fun e => by rw [e, hLR] at h; cases h
          refine ⟨?_, ha⟩
          rw [← hHL, upd_ne ha] at h
          exact h
        obtain ⟨r0, rR⟩ := hnone f1
        obtain ⟨j0, jR⟩ := hnone f2
        refine k Dn (some (r', j)) _ hD0 ?_ ?_ (fun a o e => ?_) ?_
        · intro a ha
          have ha : a ∈ [r', j] := ha
          simp only [List.mem_cons, List.not_mem_nil, or_false] at ha
          rcases ha with rfl | rfl
          · exact r0
          · exact j0
        · show [Dn, r', j].Nodup
          simp only [List.nodup_cons, List.mem_cons, List.not_mem_nil, or_false, not_or, List.nodup_nil, and_true, not_false_eq_true]
          exact ⟨⟨f4.symm, f5.symm⟩, f3⟩
        · by_cases ha : a = y.R
          · rw [ha, upd_same, ← hR, ← ha]
            exact e
          · rw [upd_ne ha]
            refine f6 _ _ ?_
            rw [← hHL, upd_ne ha]
            exact e
        · rw [hq]
          refine ⟨?_, ⟨dy, ?_⟩, ?_⟩
          · rw [upd_ne hDR]
            exact f7
          · rw [upd_ne rR]
            exact f8
          · rw [upd_ne jR]
            exact f9
def spSD (K : PySem.W.Frag) : Sp := fun vs H Q _ => ∃ y s, vs = [.ref y.S] ∧ StAt K H y s ∧ Bd s ∧ ∀ z H', (∀ a ∈ z.own, H a = none) → Ex H H' → StAt K H' z s → Q (.ref z.S) H'
def nmSD : List Str := ["self", "found", "name", "reader"]
theorem sc_State_doubled : FnScope nmSD ["self"] (defScope Lh.s_State_doubled) := ⟨rfl, rfl, rfl, by decide +kernel, rfl, by decide +kernel, by decide +kernel⟩
end
section
variable {X : Cx} {C m : Str} {k : Nat} {ps : List Str} {sp : Sp} {K : PySem.W.Frag} {e o : Expr} {es : List Expr} {t : TA} {ta : TE} {p pos apos : Pos}
theorem pe_mth0K {pl : Sem Bool} (D : Mth X.prog X.w X.K X.mg X.base C m k ps sp) (hm : Meth X.K (He.ga X.K C) m (He.ma X.K (He.ga X.K C) m)) (c : Cls X.K (He.ga X.K C)) (hr : Room k X.A) (he : PE X o ta) (hK : X.K = K := by rfl)
    (ht : eval (.Call (.Attribute o m apos) [] [] pos) X.env = (do
      let ov ← eval o X.env
      standAt apos.atName
      let (f, first) ← holding [ov] (getMethod ov m pl)
      callWith pos f first (backTo pos (starEach [] X.env)) (backToKw pos (keywordEach [] X.env))) := by rfl) :
    PE X (.Call (.Attribute o m apos) [] [] pos) (tMeth (He.ga K C) m sp [] E0 ta tNil) := hK ▸ pe_mth0 (pl := pl) D hm c hr he ht
end
section
variable {P : Program} {w : World} {K : PySem.W.Frag} {mg : Str → Option Value} {base : Heap}
theorem t_FG {σ : L2.St} {H : Hp} {Q : L2.St → Hp → Prop} {i : Nat} {x C dx T : Addr} {fs : List (Str × V)} {f1 f2 : Str} {v1 v2 : V} (hσ : σ[i]? = some (some (.ref x))) (h : H x = some (.ins C dx fs)) (hT : H T = some (.tup [v1, v2])) (c : Cls K C) (n1 : NoAttr K C f1) (n2 : NoAttr K C f2) (hl : fs.length < 900)
    (hl2 : (putF f1 v1 fs).length < 1000) (k : ∀ H', (∀ a, a ≠ x → H' a = H a) → H' x = some (.ins C dx (putF f2 v2 (putF f1 v1 fs))) → Q σ H') : gTup K 2 (gCons (Kx.gFld K (tVar i) f1) (gCons (Kx.gFld K (tVar i) f2) gNil)) (.ref T) σ H Q :=
  t_FF hσ h hT c n1 n2 hl hl2 (k _ (fun a ha => by rw [upd_ne ha, upd_ne ha]) upd_same)
theorem q_fldE {ta tv : TE} {f : Str} {tz : TS} {D : Ends} {σ : L2.St} {H : Hp} (h : tv σ H fun y H1 => ta σ H1 fun x H2 => ∃ a C dx fs, x = .ref a ∧ H2 a = some (.ins C dx fs) ∧ Cls K C ∧ NoAttr K C f ∧ fs.length < 1000 ∧ tz D σ (upd H2 a (.ins C dx (putF f y fs)))) : tSeq (sFld K ta tv f) tz D σ H := h
theorem ok_State_doubled (T : Facts K mg) : Mth P w K mg base "State" "doubled" 4 ["self"] (spSD K) := by
  obtain ⟨fd, F⟩ := T.fn 18
  refine ⟨⟨fd, go F sc_State_doubled ?_ fun cdv A outer s H vs Q E hr h => ?_, F.bindsN fun _ _ _ _ _ _ us hl => match us, hl with | [_], _ => rfl⟩⟩
  · rintro vs H Q E ⟨y, s, rfl, _⟩
    rfl
  obtain ⟨y, st, rfl, hS, B, k⟩ := h
  have nd := sc_State_doubled.nd
  refine ⟨_, pss_cons (ps_set (i := 1) nd rfl (Or.inl rfl) (pe_new0 (ok_State_init T) (T.mkr 71) (T.glo 33) (hr.mono (by decide))))
    (pss_cons (ps_asg (pe_tup (pa_cons (pe_fld (pv 0) rfl) (pa_cons (pe_callTy call_list_of rfl T.n_list boot_list (pa_cons (pe_fld (pv 0) rfl) pa_nil)) pa_nil))) (pg_tup rfl (pgs_cons (Kx.pg_fld (pv 1)) (pgs_cons (Kx.pg_fld (pv 1)) pgs_nil))))
    (pss_cons (ps_asg (pe_tup (pa_cons (pe_callTy call_dictD rfl T.n_dict boot_dict (pa_cons (pe_fld (pv 0) rfl) pa_nil)) (pa_cons (pe_callTy call_list_of rfl T.n_list boot_list (pa_cons (pe_fld (pv 0) rfl) pa_nil)) pa_nil))) (pg_tup rfl (pgs_cons (Kx.pg_fld (pv 1)) (pgs_cons (Kx.pg_fld (pv 1)) pgs_nil))))
    (pss_cons (ps_fld (pv 1) (pe_lock (pe_dc (own := [("name", 2), ("reader", 3)]) (g := gTup K 2 (gCons (gName 2) (gCons (gName 3) gNil))) (tt := tYes) rfl nd (pi_items (pe_fld (pv 0) rfl))
        (blkOk_by (own := [("name", 2), ("reader", 3)]) (N := nmSD) (sc := defScope Lh.s_State_doubled) (by decide +kernel))
        (fun _ _ _ _ _ => pg_tup rfl (pgs_cons (pg_name (i := 2) nd rfl (Or.inl rfl)) (pgs_cons (pg_name (i := 3) nd rfl (Or.inl rfl)) pgs_nil))) (fun _ _ _ _ _ => pts_nil)
        (fun _ _ _ _ _ => pv 2) (fun _ _ _ _ _ => pe_mth0K (K := K) (ok_Reader_doubled T) (T.meth 69) (T.cls 64) hr (pv 3)))) rfl)
    (pss_one (ps_ret (pv 1)))))), ?_⟩
  refine q_asgE (e_newS fun z H1 hz e1 hZ => ?_)
  have hx0 : H z.S = none := hz _ (.head _)
  obtain ⟨dz, hz1⟩ := hZ.S
  obtain ⟨dy, hy1⟩ := hS.S
  obtain ⟨evs, hE, hel⟩ := hS.E
  -- begun, events
  refine q_tupAsg (cons_in ?_)
  refine (ev_fld (ev_var (v := .ref y.S) (i := 0) rfl) (e1 _ _ hy1) (T.cls 70) (T.noat 72) rfl : Ev _ [some (.ref y.S), some (.ref z.S), none, none] H1 (.int st.b)) H1 (Ex.refl _) _ fun H2 e2 => cons_in ?_
  refine (el_list (ev_fld (ev_var (v := .ref y.S) (i := 0) rfl) ((e1.trans e2) _ _ hy1) (T.cls 70) (T.noat 76) rfl) (SqL.of ((e1.trans e2) _ _ hE)) : EvL _ [some (.ref y.S), some (.ref z.S), none, none] H2 evs) H2 (Ex.refl _) _ fun E' H3 hE' e3 h3 => ⟨by show 2 ≤ sizeLine; decide, fun Tt hT => ?_⟩
  have e13 : Ex H1 (upd H3 Tt (.tup [.int st.b, .ref E'])) := (e2.trans e3).trans (Ex.new hT)
  refine t_FG (x := z.S) (i := 1) rfl (e13 _ _ hz1) upd_same (T.cls 70) (T.noat 72) (T.noat 76) (by show 5 < 900; decide) (by show 5 < 1000; decide) fun HA hA hAx => ?_
  have hAx : HA z.S = some (.ins (He.ga K "State") dz (fsS { z with E := E' } st.b)) := hAx
  have eHA : Ex H HA := fun a o e => by
    rw [hA a fun ax => by rw [ax, hx0] at e; cases e]
    exact (e1.trans e13) a o e
  have hE0 : H E' = none := fresh_back (e1.trans e2) hE'
  have hEx : E' ≠ z.S := fun e => by rw [e, e2 _ _ hz1] at hE'; cases hE'
  have hAE : HA E' = some (.lst evs) := by
    rw [hA _ hEx]
    exact Ex.new hT _ _ h3
  -- open, order
  refine q_tupAsg (cons_in ?_)
  refine (en_dict (ev_fld (ev_var (v := .ref y.S) (i := 0) rfl) (eHA _ _ hy1) (T.cls 70) (T.noat 73) rfl) (eHA _ _ hS.O) : EvN _ [some (.ref y.S), some (.ref z.S), none, none] HA _) HA (Ex.refl _) _ fun O' H5 hO' e5 h5 => ?_
  refine cons_in ?_
  refine (el_list (ev_fld (ev_var (v := .ref y.S) (i := 0) rfl) ((eHA.trans e5) _ _ hy1) (T.cls 70) (T.noat 74) rfl) (SqL.of ((eHA.trans e5) _ _ hS.D)) : EvL _ [some (.ref y.S), some (.ref z.S), none, none] H5 _) H5 (Ex.refl _) _ fun D' H6 hD' e6 h6 => ⟨by show 2 ≤ sizeLine; decide, fun T2 hT2 => ?_⟩
  have e7 : Ex HA (upd H6 T2 (.tup [.ref O', .ref D'])) := (e5.trans e6).trans (Ex.new hT2)
  refine t_FG (x := z.S) (i := 1) rfl (e7 _ _ hAx) upd_same (T.cls 70) (T.noat 73) (T.noat 74) (by show 5 < 900; decide) (by show 5 < 1000; decide) fun HB hB hBx => ?_
  have hBx : HB z.S = some (.ins (He.ga K "State") dz (fsS { z with E := E', O := O', D := D' } st.b)) := hBx
  have hO0 : H O' = none := fresh_back eHA hO'
  have hD0 : H D' = none := fresh_back (eHA.trans e5) hD'
  have hOx : O' ≠ z.S := fun e => by rw [e, hAx] at hO'; cases hO'
  have hDx : D' ≠ z.S := fun e => by rw [e, e5 _ _ hAx] at hD'; cases hD'
  have hOE : O' ≠ E' := fun e => by rw [e, hAE] at hO'; cases hO'
  have hDE : D' ≠ E' := fun e => by rw [e, e5 _ _ hAE] at hD'; cases hD'
  have hOD : O' ≠ D' := ne_of_none h5 hD'
  have eHB : Ex H HB := fun a o e => by
    rw [hB a fun ax => by rw [ax, hx0] at e; cases e]
    exact (eHA.trans e7) a o e
  have hBE : HB E' = some (.lst evs) := by
    rw [hB _ hEx]
    exact e7 _ _ hAE
  have hBO : HB O' = some (.dK (trues st.op)) := by
    rw [hB _ hOx]
    exact (e6.trans (Ex.new hT2)) _ _ h5
  have hBD : HB D' = some (.lst (st.ord.map V.int)) := by
    rw [hB _ hDx]
    exact Ex.new hT2 _ _ h6
  -- readers
  refine q_fldE (e_readers T (hS.ex eHB) B fun R' rd' H8 hR' hrd' hnd e8 hRA => ⟨.ref z.S, rfl, z.S, _, dz, _, rfl, e8 _ _ hBx, T.cls 70, T.noat 75, by show 5 < 1000; decide, ?_⟩)
  refine s_ret (ev_var (v := .ref z.S) (i := 1) rfl) fun H9 e9 => ?_
  have hRx : R' ≠ z.S := fun e => by rw [e, hBx] at hR'; cases hR'
  have hrx : ∀ a ∈ SA.rds rd', a ≠ z.S := fun a ha e => by rw [← e, hrd' a ha] at hBx; cases hBx
  have g9 : ∀ {a : Addr} {o : HO}, H8 a = some o → a ≠ z.S → H9 a = some o := fun {a o} h n => e9 _ _ (by rw [upd_ne n]; exact h)
  refine k ⟨z.S, O', D', R', E', rd'⟩ H9 (fun a ha => ?_) ((Ex.mut (eHB.trans e8) hx0).trans e9) ⟨⟨dz, e9 _ _ upd_same⟩, g9 (e8 _ _ hBO) hOx, g9 (e8 _ _ hBD) hDx, ⟨evs, g9 (e8 _ _ hBE) hEx, hel⟩, ?_, ?_⟩
  · have ha : a ∈ [z.S, O', D', R', E'] ++ SA.rds rd' := ha
    rcases List.mem_append.mp ha with ha | ha
    · simp only [List.mem_cons, List.not_mem_nil, or_false] at ha
      rcases ha with rfl | rfl | rfl | rfl | rfl
      · exact hx0
      · exact hO0
      · exact hD0
      · exact fresh_back eHB hR'
      · exact hE0
    · exact fresh_back eHB (hrd' a ha)
  · show RdAt K H9 R' rd' st.rd
    cases rd' with
    | none =>
      cases hq : st.rd with
      | some q => rw [hq] at hRA; exact hRA.elim
      | none => rw [hq] at hRA; exact g9 hRA hRx
    | some p =>
      cases hq : st.rd with
      | none => rw [hq] at hRA; exact hRA.elim
      | some q =>
        rw [hq] at hRA
        obtain ⟨a1, ⟨dr, a2⟩, a3⟩ := hRA
        exact ⟨g9 a1 hRx, ⟨dr, g9 a2 (hrx p.1 (.head _))⟩, g9 a3 (hrx p.2 (.tail _ (.head _)))⟩
  · show ([z.S, O', D', R', E'] ++ SA.rds rd').Nodup
    rw [List.nodup_cons] at hnd
    have oR : O' ≠ R' := ne_of_none hBO hR'
    have dR : D' ≠ R' := ne_of_none hBD hR'
    have eR : E' ≠ R' := ne_of_none hBE hR'
    refine List.nodup_append.mpr ⟨?_, hnd.2, fun a ha b hb => ?_⟩
    · simp only [List.nodup_cons, List.mem_cons, List.not_mem_nil, or_false, not_or, List.nodup_nil, and_true, not_false_eq_true]
      exact ⟨⟨hOx.symm, hDx.symm, hRx.symm, hEx.symm⟩, ⟨hOD, oR, hOE⟩, ⟨dR, hDE⟩, eR.symm⟩
    · simp only [List.mem_cons, List.not_mem_nil, or_false] at ha
      rcases ha with rfl | rfl | rfl | rfl | rfl
      · exact (hrx b hb).symm
      · exact ne_of_none hBO (hrd' b hb)
      · exact ne_of_none hBD (hrd' b hb)
      · exact fun e => hnd.1 (e ▸ hb)
      · exact ne_of_none hBE (hrd' b hb)
end
end Lp

/-! ## V11 -/
set_option Elab.async false
set_option linter.all false
set_option maxRecDepth 100000
set_option maxHeartbeats 4000000
/-! State.put. -/
namespace Lp
open PySem PySem.Spec PyProof.Rows L2 Evl
inductive EvK where
  | beg
  | com (x : Int)
  | pol
def EvK.tup : EvK → List V
  | .beg => [.str "begin"]
  | .com x => [.str "commit", .int x]
  | .pol => [.str "poll", .str "a"]
def SS.ids (s : SS) : List Int := (s.rd.getD ([], 0)).1
def SS.cu (s : SS) : Int := (s.rd.getD ([], 0)).2
def gotL (s : SS) : List Int := Lm.srt (s.ord.filter fun x => decide (s.cu < x))
def step (s : SS) : EvK → SS
  | .beg => { s with b := s.b + 1, op := s.op ++ [s.b + 1], ev := s.ev + 1 }
  | .com x => { s with op := s.op.filter fun z => decide (z ≠ x), ord := s.ord ++ [x], ev := s.ev + 1 }
  | .pol => { s with rd := some (s.ids ++ gotL s, Lm.mxl s.cu (gotL s)) }
def okE (s : SS) : EvK → Prop
  | .beg => s.b + 1 ∉ s.op
  | .com x => x ∈ s.op
  | .pol => True
/-- what comes back -/
def Back (s : SS) (H : Hp) (v : V) (H' : Hp) : EvK → Prop
  | .pol => ∃ p, v = .ref p ∧ H p = none ∧ H' p = some (.lst ((gotL s).map V.int))
  | _ => True
theorem trues_drop (op : List Int) (x : Int) : dropK (trues op) (Sum.inl x) = trues (op.filter fun z => decide (z ≠ x)) := by
  unfold dropK trues
  rw [List.filter_map]
  refine congrArg _ (List.filter_congr fun z _ => ?_)
  exact decide_eq_decide.mpr ⟨fun a e => a (by rw [e]), fun a e => a (Sum.inl.inj e)⟩
theorem own_ne {y : SA} (h : y.own.Nodup) : y.S ≠ y.O ∧ y.S ≠ y.D ∧ y.S ≠ y.R ∧ y.S ≠ y.E ∧ y.O ≠ y.D ∧ y.O ≠ y.R ∧ y.O ≠ y.E ∧ y.D ≠ y.R ∧ y.D ≠ y.E ∧ y.R ≠ y.E := by
  have h1 : [y.S, y.O, y.D, y.R, y.E].Nodup := (List.nodup_append.mp h).1
  simp only [List.nodup_cons, List.mem_cons, List.not_mem_nil, or_false, not_or, List.nodup_nil, and_true, not_false_eq_true] at h1
  obtain ⟨⟨a, b, c, d⟩, ⟨e, f, g⟩, ⟨h, i⟩, j⟩ := h1
  exact ⟨a, b, c, d, e, f, g, h, i, j⟩
theorem own_rds {y : SA} (h : y.own.Nodup) : ∀ a ∈ SA.rds y.rd, a ≠ y.S ∧ a ≠ y.O ∧ a ≠ y.D ∧ a ≠ y.R ∧ a ≠ y.E := by
  intro a ha
  have h1 := (List.nodup_append.mp h).2.2
  have h2 : ∀ b ∈ [y.S, y.O, y.D, y.R, y.E], a ≠ b := fun b hb e => h1 b hb a ha e.symm
  exact ⟨h2 _ (.head _), h2 _ (.tail _ (.head _)), h2 _ (.tail _ (.tail _ (.head _))), h2 _ (.tail _ (.tail _ (.tail _ (.head _)))), h2 _ (.tail _ (.tail _ (.tail _ (.tail _ (.head _)))))⟩
theorem RdAt.ch {K : PySem.W.Frag} {S : List Addr} {H H' : Hp} {R : Addr} {rd : Option (Addr × Addr)} {q : Option (List Int × Int)} (c : Ch S H H') (hR : R ∉ S) (hr : ∀ a ∈ SA.rds rd, a ∉ S) (h : RdAt K H R rd q) : RdAt K H' R rd q := by
  cases rd with
  | none =>
    cases q with
    | none => exact c _ _ h hR
    | some q => exact h.elim
  | some p =>
    cases q with
    | none => exact h.elim
    | some q =>
      obtain ⟨h1, ⟨dx, h2⟩, h3⟩ := h
      exact ⟨c _ _ h1 hR, ⟨dx, c _ _ h2 (hr p.1 (.head _))⟩, c _ _ h3 (hr p.2 (.tail _ (.head _)))⟩
section
variable {K : PySem.W.Frag} {σ : L2.St} {H : Hp} {ta tb td tk te tv : TE} {D : Ends} {tz : TS} {f : Str}
/-- l.append(a reference) of an object's field -/
theorem s_dputE (h : tv σ H fun v H1 => td σ H1 fun x H2 => tk σ H2 fun y H3 => ∃ a H4, x = .ref a ∧ DPut H3 a y v H4 ∧ D.nx σ H4) : sDPut td tk tv D σ H := h
theorem q_ddel {d : Addr} {kvs : List (Key × V)} {k : Key} (hd : Ev td σ H (.ref d)) (hk : Ev tk σ H (kV k)) (h : H d = some (.dK kvs)) (hi : (valV kvs k).isSome = true) (q : ∀ H1, Ex H H1 → tz D σ (upd H1 d (.dK (dropK kvs k)))) : tSeq (sDDel td tk) tz D σ H :=
  hd H (Ex.refl _) _ fun H1 e1 => hk H1 e1 _ fun H2 e2 => ⟨d, kvs, k, rfl, (e1.trans e2) _ _ h, rfl, hi, q H2 (e1.trans e2)⟩
theorem q_dput {v : V} {d : Addr} {kvs : List (Key × V)} {k : Key} (hv : Ev tv σ H v) (hd : Ev td σ H (.ref d)) (hk : Ev tk σ H (kV k)) (h : H d = some (.dK kvs)) (hz : kvs.length < 100000) (q : ∀ H1, Ex H H1 → tz D σ (upd H1 d (.dK (putK kvs k v)))) : tSeq (sDPut td tk tv) tz D σ H :=
  s_dput (D := { D with nx := tz D }) hv hd hk h hz q
theorem q_fldAug {a C dx : Addr} {fs : List (Str × V)} {i j : Int} (ho : Ev ta σ H (.ref a)) (hv : Ev tv σ H (.int j)) (h : H a = some (.ins C dx fs)) (c : Cls K C) (n : NoAttr K C f) (hl : fs.length < 1000) (hf : fs.lookup f = some (.int i)) (k : ∀ H1, Ex H H1 → tz D σ (upd H1 a (.ins C dx (putF f (.int (i + j)) fs)))) : tSeq (sFldAug K ta tv rAdd f) tz D σ H :=
  ho H (Ex.refl _) _ fun H1 e1 => ⟨a, C, dx, fs, .int i, rfl, e1 _ _ h, c, n, hf, hv H1 e1 _ fun H2 e2 => ⟨i, j, rfl, rfl, dx, fs, (e1.trans e2) _ _ h, hl, k H2 (e1.trans e2)⟩⟩
theorem ev_ixT {p : Addr} {xs : List V} {j : Nat} {v : V} (ha : Ev ta σ H (.ref p)) (h : H p = some (.tup xs)) (hj : xs[j]? = some v) : Ev (tOp (rIxT K) ta (tC (.int (j : Int)))) σ H v := ev_op ha ev_c (rv_ixT (SqT.of h) (atI_nat hj))
end
section
variable {P : Program} {w : World} {K : PySem.W.Frag} {mg : Str → Option Value} {base : Heap}
def spPut (K : PySem.W.Frag) : Sp := fun vs H Q _ => ∃ y s ev ek, vs = [.ref y.S, .ref ev] ∧ StAt K H y s ∧ Bd s ∧ H ev = some (.tup (EvK.tup ek)) ∧ okE s ek ∧
  ∀ v z H', z.S = y.S → (∀ a ∈ z.own, a ∈ y.own ∨ H a = none) → Ch y.own H H' → StAt K H' z (step s ek) → Back s H v H' ek → Q v H'
def nmPut : List Str := ["self", "event", "word"]
theorem sc_State_put : FnScope nmPut ["self", "event"] (defScope Lh.s_State_put) := ⟨rfl, rfl, rfl, by decide +kernel, rfl, by decide +kernel, by decide +kernel⟩
theorem e_got (T : Facts K mg) {H : Hp} {D : Ends} {y : SA} {st : SS} {ev r i dx : Addr} (B : Bd st) (hs : H y.S = some (.ins (He.ga K "State") dx (fsS y st.b))) (hev : H ev = some (.tup (EvK.tup .pol))) (hD : H y.D = some (.lst (st.ord.map V.int))) (hR : RdAt K H y.R (some (r, i)) (some (st.ids, st.cu)))
    (hri : y.R ≠ r ∧ y.R ≠ i) (hil : st.ids.length ≤ 1000)
    (k : ∀ p H', H p = none → Ch [r, i] H H' → H' p = some (.lst ((gotL st).map V.int)) → RdAt K H' y.R (some (r, i)) (some (st.ids ++ gotL st, Lm.mxl st.cu (gotL st))) → D.rt (.ref p) H') :
    tRet (tMeth (He.ga K "Reader") "got" (spGot K) [] E0 (tDGet (tFld K (tVar 0) "kept_readers") (tOp (rIxT K) (tVar 1) (tC (.int 1)))) (tCons (tFld K (tVar 0) "kept_order") tNil)) D [some (.ref y.S), some (.ref ev), some (.str "poll")] H := by
  obtain ⟨h1, ⟨dr, h2⟩, h3⟩ := hR
  refine (ev_dget (k := Sum.inr "a") (kvs := [(Sum.inr "a", .ref r)]) (v := .ref r) (ev_fld (ev_var (v := .ref y.S) (i := 0) rfl) hs (T.cls 70) (T.noat 75) rfl) (ev_ixT (j := 1) (v := .str "a") (ev_var (v := .ref ev) (i := 1) rfl) hev rfl) h1 (valV_pos rfl) : Ev _ [some (.ref y.S), some (.ref ev), some (.str "poll")] H _) H (Ex.refl _) _ fun H1 e1 => ?_
  refine ⟨r, dr, _, rfl, e1 _ _ h2, rfl, ?_⟩
  refine (ea_cons (ev_fld (ev_var (v := .ref y.S) (i := 0) rfl) (e1 _ _ hs) (T.cls 70) (T.noat 74) rfl) ea_nil : EvA _ [some (.ref y.S), some (.ref ev), some (.str "poll")] H1 [.ref y.D]) H1 (Ex.refl _) _ fun H2 e2 => ?_
  have e12 := e1.trans e2
  refine ⟨r, y.D, i, dr, st.cu, st.ids, st.ord, rfl, e12 _ _ h2, e12 _ _ h3, SqL.of (e12 _ _ hD), hil, by have := B.ord; omega, fun p H' hp hc g1 g2 g3 => ?_⟩
  refine k p H' (fresh_back e12 hp) (Ch.trans (Ch.of e12) hc) g1 ⟨hc _ _ (e12 _ _ h1) ?_, ⟨dr, g2⟩, g3⟩
  simp only [List.mem_cons, List.not_mem_nil, or_false, not_or]
  exact hri
theorem ok_State_put (T : Facts K mg) : Mth P w K mg base "State" "put" 3 ["self", "event"] (spPut K) := by
  obtain ⟨fd, F⟩ := T.fn 19
  refine ⟨⟨fd, go F sc_State_put ?_ fun cdv A outer s H vs Q E hr h => ?_, F.bindsN fun _ _ _ _ _ _ us hl => match us, hl with | [_, _], _ => rfl⟩⟩
  · rintro vs H Q E ⟨y, s, ev, ek, rfl, _⟩
    rfl
  obtain ⟨y, st, ev, ek, rfl, hS, B, hev, hok, k⟩ := h
  have nd := sc_State_put.nd
  have hu := hu_of hr
  refine ⟨_, pss_cons (ps_set (i := 2) nd rfl (Or.inl rfl) (pe_ix ix_tup (pv 1) pe_int (fun _ _ => rfl)))
    (pss_cons (ps_if (pt_cmpR op_eq (pv 2) (pe_gstr T.c_POLL) (nomark _))
      (pss_cons (ps_if (pt_cmp (pc_dnotin hu (pe_ix ix_tup (pv 1) pe_int (fun _ _ => rfl)) (pe_fld (pv 0) rfl)) rfl) (pss_one (ps_dput hu (pe_fld (pv 0) rfl) (pe_ix ix_tup (pv 1) pe_int (fun _ _ => rfl)) (pe_new0 (ok_Reader_init T) (T.mkr 65) (T.glo 32) hr) rfl)) pss_nil)
        (pss_one (ps_ret (pe_mth (ok_Reader_got T) (T.meth 68) (T.cls 64) (hr.mono (by decide)) (pe_dget hu (pe_fld (pv 0) rfl) (pe_ix ix_tup (pv 1) pe_int (fun _ _ => rfl)) fun _ _ => rfl) (pa_cons (pe_fld (pv 0) rfl) pa_nil))))) pss_nil)
    (pss_cons (ps_expr (pe_bm PySem.F.plainAttrs_list PySem.F.slot_list_append PySem.F.type_list_append mt_append (pe_fld (pv 0) rfl) (pa_cons (pv 1) pa_nil)))
    (pss_cons (ps_if (pt_cmpR op_eq (pv 2) pe_str (nomark _))
      (pss_cons (ps_fldaug (pv 0) pe_int in_add) (pss_cons (ps_dput hu (pe_fld (pv 0) rfl) (pe_fld (pv 0) rfl) pe_bl rfl) (pss_one (ps_ret (pe_fld (pv 0) rfl))))) pss_nil)
    (pss_cons (ps_ddel (pe_fld (pv 0) rfl) (pe_ix ix_tup (pv 1) pe_int (fun _ _ => rfl)))
    (pss_cons (ps_if (pt_cmpR op_eq (pv 2) pe_str (nomark _)) (pss_one (ps_expr (pe_bm PySem.F.plainAttrs_list PySem.F.slot_list_append PySem.F.type_list_append mt_append (pe_fld (pv 0) rfl) (pa_cons (pe_ix ix_tup (pv 1) pe_int (fun _ _ => rfl)) pa_nil)))) pss_nil)
    (pss_one (ps_ret pe_non))))))), ?_⟩
  obtain ⟨dx, hs⟩ := hS.S
  obtain ⟨evs, hE, hel⟩ := hS.E
  obtain ⟨nSO, nSD, nSR, nSE, nOD, nOR, nOE, nDR, nDE, nRE⟩ := own_ne hS.nd
  have hrds := own_rds hS.nd
  have mS : y.S ∈ y.own := .head _
  have mO : y.O ∈ y.own := .tail _ (.head _)
  have mD : y.D ∈ y.own := .tail _ (.tail _ (.head _))
  have mR : y.R ∈ y.own := .tail _ (.tail _ (.tail _ (.head _)))
  have mE : y.E ∈ y.own := .tail _ (.tail _ (.tail _ (.tail _ (.head _))))
  cases ek with
  | beg =>
    refine q_asg (v := .str "begin") (ev_ixT (j := 0) (ev_var (v := .ref ev) rfl) hev rfl) fun H1 e1 => ?_
    refine q_when (b := false) (et_is (et_test (ev_op (ev_var (v := .str "begin") rfl) (ev_c (v := .str "poll")) (rv_eq rfl))) (by decide)) (fun h => by cases h) fun _ H2 e2 => ?_
    have e12 := e1.trans e2
    refine q_app (l := y.E) (e12 _ _ hE) (ev_fld (ev_var (v := .ref y.S) rfl) (e12 _ _ hs) (T.cls 70) (T.noat 76) rfl) (ev_var (v := .ref ev) rfl) (by have := B.ev; omega) fun H3 e3 => ?_
    have e13 := e12.trans e3
    have sA : upd H3 y.E (.lst (evs ++ [.ref ev])) y.S = some (.ins (He.ga K "State") dx (fsS y st.b)) := by rw [upd_ne nSE]; exact e13 _ _ hs
    have oA : upd H3 y.E (.lst (evs ++ [.ref ev])) y.O = some (.dK (trues st.op)) := by rw [upd_ne nOE]; exact e13 _ _ hS.O
    refine q_when (b := true) (et_is (et_test (ev_op (ev_var (v := .str "begin") rfl) (ev_c (v := .str "begin")) (rv_eq rfl))) (by decide)) (fun _ H4 e4 => ?_) (fun h => by cases h)
    refine q_fldAug (i := st.b) (j := 1) (ev_var (v := .ref y.S) rfl) ev_c (e4 _ _ sA) (T.cls 70) (T.noat 72) (by show 5 < 1000; decide) rfl fun H5 e5 => ?_
    have oB : upd H5 y.S (.ins (He.ga K "State") dx (putF "kept_begun" (.int (st.b + 1)) (fsS y st.b))) y.O = some (.dK (trues st.op)) := by rw [upd_ne nSO.symm]; exact (e4.trans e5) _ _ oA
    refine q_dput (k := Sum.inl (st.b + 1)) (kvs := trues st.op) (v := .bl true) ev_c (ev_fld (ev_var (v := .ref y.S) rfl) upd_same (T.cls 70) (T.noat 73) rfl) (ev_fld (ev_var (v := .ref y.S) rfl) upd_same (T.cls 70) (T.noat 72) rfl) oB (by rw [mxl0_len]; have := B.op; omega) fun H6 e6 => ?_
    have sC : upd H6 y.O (.dK (putK (trues st.op) (Sum.inl (st.b + 1)) (.bl true))) y.S = some (.ins (He.ga K "State") dx (fsS y (st.b + 1))) := by rw [upd_ne nSO]; exact e6 _ _ upd_same
    refine s_ret (v := .int (st.b + 1)) (ev_fld (ev_var (v := .ref y.S) rfl) sC (T.cls 70) (T.noat 72) rfl) fun H7 e7 => ?_
    have cc : Ch [y.S, y.O, y.E] H H7 := Ch.trans (Ch.put (Ch.trans (Ch.put (Ch.trans (Ch.put (Ch.of e13) (.tail _ (.tail _ (.head _)))) (Ch.of (e4.trans e5))) (.head _)) (Ch.of e6)) (.tail _ (.head _))) (Ch.of e7)
    have hsub : ∀ a ∈ [y.S, y.O, y.E], a ∈ y.own := fun a ha => by
      simp only [List.mem_cons, List.not_mem_nil, or_false] at ha
      rcases ha with rfl | rfl | rfl <;> assumption
    refine k _ y H7 rfl (fun a ha => .inl ha) (cc.more fun a ha => .inl (hsub a ha)) ⟨⟨dx, e7 _ _ sC⟩, e7 _ _ ?_, cc _ _ hS.D ?_, ⟨evs ++ [.ref ev], e7 _ _ ?_, ?_⟩, hS.R.ch cc ?_ fun a ha => ?_, hS.nd⟩ trivial
    · rw [upd_same, trues_put hok]
      rfl
    · simp only [List.mem_cons, List.not_mem_nil, or_false, not_or]
      exact ⟨nSD.symm, nOD.symm, nDE⟩
    · rw [upd_ne nOE.symm]
      refine e6 _ _ ?_
      rw [upd_ne nSE.symm]
      exact (e4.trans e5) _ _ upd_same
    · rw [List.length_append, hel]
      rfl
    · simp only [List.mem_cons, List.not_mem_nil, or_false, not_or]
      exact ⟨nSR.symm, nOR.symm, nRE⟩
    · simp only [List.mem_cons, List.not_mem_nil, or_false, not_or]
      obtain ⟨q1, q2, q3, q4, q5⟩ := hrds a ha
      exact ⟨q1, q2, q5⟩
  | com x =>
    refine q_asg (v := .str "commit") (ev_ixT (j := 0) (ev_var (v := .ref ev) rfl) hev rfl) fun H1 e1 => ?_
    refine q_when (b := false) (et_is (et_test (ev_op (ev_var (v := .str "commit") rfl) (ev_c (v := .str "poll")) (rv_eq rfl))) (by decide)) (fun h => by cases h) fun _ H2 e2 => ?_
    have e12 := e1.trans e2
    refine q_app (l := y.E) (e12 _ _ hE) (ev_fld (ev_var (v := .ref y.S) rfl) (e12 _ _ hs) (T.cls 70) (T.noat 76) rfl) (ev_var (v := .ref ev) rfl) (by have := B.ev; omega) fun H3 e3 => ?_
    have e13 := e12.trans e3
    have hevE : ev ≠ y.E := fun e => by rw [e, hE] at hev; cases hev
    have hevO : ev ≠ y.O := fun e => by rw [e, hS.O] at hev; cases hev
    have sA : upd H3 y.E (.lst (evs ++ [.ref ev])) y.S = some (.ins (He.ga K "State") dx (fsS y st.b)) := by rw [upd_ne nSE]; exact e13 _ _ hs
    have oA : upd H3 y.E (.lst (evs ++ [.ref ev])) y.O = some (.dK (trues st.op)) := by rw [upd_ne nOE]; exact e13 _ _ hS.O
    have dA : upd H3 y.E (.lst (evs ++ [.ref ev])) y.D = some (.lst (st.ord.map V.int)) := by rw [upd_ne nDE]; exact e13 _ _ hS.D
    have vA : upd H3 y.E (.lst (evs ++ [.ref ev])) ev = some (.tup [.str "commit", .int x]) := by rw [upd_ne hevE]; exact e13 _ _ hev
    refine q_when (b := false) (et_is (et_test (ev_op (ev_var (v := .str "commit") rfl) (ev_c (v := .str "begin")) (rv_eq rfl))) (by decide)) (fun h => by cases h) fun _ H4 e4 => ?_
    refine q_ddel (k := Sum.inl x) (kvs := trues st.op) (ev_fld (ev_var (v := .ref y.S) rfl) (e4 _ _ sA) (T.cls 70) (T.noat 73) rfl) (ev_ixT (j := 1) (v := .int x) (ev_var (v := .ref ev) rfl) (e4 _ _ vA) rfl) (e4 _ _ oA) (by rw [trues_get]; exact decide_eq_true hok) fun H5 e5 => ?_
    have sB : upd H5 y.O (.dK (dropK (trues st.op) (Sum.inl x))) y.S = some (.ins (He.ga K "State") dx (fsS y st.b)) := by rw [upd_ne nSO]; exact (e4.trans e5) _ _ sA
    have dB : upd H5 y.O (.dK (dropK (trues st.op) (Sum.inl x))) y.D = some (.lst (st.ord.map V.int)) := by rw [upd_ne nOD.symm]; exact (e4.trans e5) _ _ dA
    have vB : upd H5 y.O (.dK (dropK (trues st.op) (Sum.inl x))) ev = some (.tup [.str "commit", .int x]) := by rw [upd_ne hevO]; exact (e4.trans e5) _ _ vA
    refine q_when (b := true) (et_is (et_test (ev_op (ev_var (v := .str "commit") rfl) (ev_c (v := .str "commit")) (rv_eq rfl))) (by decide)) (fun _ H6 e6 => ?_) (fun h => by cases h)
    refine s_app (l := y.D) (e6 _ _ dB) (ev_fld (ev_var (v := .ref y.S) rfl) (e6 _ _ sB) (T.cls 70) (T.noat 74) rfl) (ev_ixT (j := 1) (v := .int x) (ev_var (v := .ref ev) rfl) (e6 _ _ vB) rfl) (by rw [List.length_map]; have := B.ord; omega) fun H7 e7 => ?_
    show tRet (tC .non) { nx := fun _ H' => Q .non H', rt := Q } [some (.ref y.S), some (.ref ev), some (.str "commit")] _
    refine s_ret (v := .non) ev_c fun H8 e8 => ?_
    have cc : Ch [y.D, y.O, y.E] H H8 := Ch.trans (Ch.put (Ch.trans (Ch.put (Ch.trans (Ch.put (Ch.of e13) (.tail _ (.tail _ (.head _)))) (Ch.of (e4.trans e5))) (.tail _ (.head _))) (Ch.of (e6.trans e7))) (.head _)) (Ch.of e8)
    have hsub : ∀ a ∈ [y.D, y.O, y.E], a ∈ y.own := fun a ha => by
      simp only [List.mem_cons, List.not_mem_nil, or_false] at ha
      rcases ha with rfl | rfl | rfl <;> assumption
    refine k _ y H8 rfl (fun a ha => .inl ha) (cc.more fun a ha => .inl (hsub a ha)) ⟨⟨dx, cc _ _ hs ?_⟩, e8 _ _ ?_, e8 _ _ ?_, ⟨evs ++ [.ref ev], e8 _ _ ?_, ?_⟩, hS.R.ch cc ?_ fun a ha => ?_, hS.nd⟩ trivial
    · simp only [List.mem_cons, List.not_mem_nil, or_false, not_or]
      exact ⟨nSD, nSO, nSE⟩
    · rw [upd_ne nOD]
      refine (e6.trans e7) _ _ ?_
      rw [upd_same, trues_drop]
      rfl
    · rw [upd_same]
      show some (HO.lst _) = some (HO.lst ((st.ord ++ [x]).map V.int))
      rw [List.map_append]
      rfl
    · rw [upd_ne nDE.symm]
      refine (e6.trans e7) _ _ ?_
      rw [upd_ne nOE.symm]
      exact (e4.trans e5) _ _ upd_same
    · rw [List.length_append, hel]
      rfl
    · simp only [List.mem_cons, List.not_mem_nil, or_false, not_or]
      exact ⟨nDR.symm, nOR.symm, nRE⟩
    · simp only [List.mem_cons, List.not_mem_nil, or_false, not_or]
      obtain ⟨q1, q2, q3, q4, q5⟩ := hrds a ha
      exact ⟨q3, q2, q5⟩
  | pol =>
    have hev : H ev = some (.tup [.str "poll", .str "a"]) := hev
    refine q_asg (v := .str "poll") (ev_ixT (j := 0) (ev_var (v := .ref ev) rfl) hev rfl) fun H1 e1 => ?_
    refine q_when (b := true) (et_is (et_test (ev_op (ev_var (v := .str "poll") rfl) (ev_c (v := .str "poll")) (rv_eq rfl))) (by decide)) (fun _ H2 e2 => ?_) (fun h => by cases h)
    have e12 := e1.trans e2
    have hR := hS.R
    cases hrd : y.rd with
    | none =>
      cases hq : st.rd with
      | some q => rw [hrd, hq] at hR; exact hR.elim
      | none =>
        rw [hrd, hq] at hR
        have hR : H y.R = some (.dK []) := hR
        refine q_when (b := true) (et_B (ev_dnotin (k := Sum.inr "a") (kvs := []) (o := none) (ev_ixT (j := 1) (v := .str "a") (ev_var (v := .ref ev) rfl) (e12 _ _ hev) rfl) (ev_fld (ev_var (v := .ref y.S) rfl) (e12 _ _ hs) (T.cls 70) (T.noat 75) rfl) (e12 _ _ hR) rfl)) (fun _ H3 e3 => ?_) (fun h => by cases h)
        have e13 := e12.trans e3
        refine s_dputE (e_newR fun r i dr H4 hr4 hi4 hri e4 h1 h2 => ?_)
        have e14 := e13.trans e4
        refine (ev_fld (ev_var (v := .ref y.S) (i := 0) rfl) (e14 _ _ hs) (T.cls 70) (T.noat 75) rfl : Ev _ [some (.ref y.S), some (.ref ev), some (.str "poll")] H4 (.ref y.R)) H4 (Ex.refl _) _ fun H5 e5 => ?_
        refine (ev_ixT (j := 1) (v := .str "a") (ev_var (v := .ref ev) (i := 1) rfl) ((e14.trans e5) _ _ hev) rfl : Ev _ [some (.ref y.S), some (.ref ev), some (.str "poll")] H5 (.str "a")) H5 (Ex.refl _) _ fun H6 e6 => ?_
        have e16 := (e14.trans e5).trans e6
        have hrR : r ≠ y.R := fun e => by rw [e, e13 _ _ hR] at hr4; cases hr4
        have hiR : i ≠ y.R := fun e => by rw [e, e13 _ _ hR] at hi4; cases hi4
        refine ⟨y.R, _, rfl, DPut.k (k := Sum.inr "a") (e16 _ _ hR) (by decide), ?_⟩
        have hevR : ev ≠ y.R := fun e => by rw [e, hR] at hev; cases hev
        have hids : st.ids = [] := by unfold SS.ids; rw [hq]; rfl
        have hcu : st.cu = 0 := by unfold SS.cu; rw [hq]; rfl
        refine e_got T B (dx := dx) (r := r) (i := i) ?_ ?_ ?_ ⟨?_, ⟨dr, ?_⟩, ?_⟩ ⟨hrR.symm, hiR.symm⟩ (by rw [hids]; decide) fun p H7 hp hc h3 h4 => ?_
        · rw [upd_ne nSR]; exact e16 _ _ hs
        · rw [upd_ne hevR]; exact e16 _ _ hev
        · rw [upd_ne nDR]; exact e16 _ _ hS.D
        · rw [upd_same]
          rfl
        · rw [upd_ne hrR, hcu]; exact (e5.trans e6) _ _ h1
        · rw [upd_ne hiR, hids]; exact (e5.trans e6) _ _ h2
        · have hr0 : H r = none := fresh_back e13 hr4
          have hi0 : H i = none := fresh_back e13 hi4
          have cc : Ch [y.R, r, i] H H7 := Ch.trans (Ch.put (Ch.of e16) (.head _)) (hc.more fun a ha => .inl (.tail _ ha))
          have ne1 : ∀ {a : Addr} {o : HO}, H a = some o → a ≠ y.R → a ∉ [y.R, r, i] := fun {a o} h n => by
            simp only [List.mem_cons, List.not_mem_nil, or_false, not_or]
            exact ⟨n, (fun e => by rw [e, hr0] at h; cases h), (fun e => by rw [e, hi0] at h; cases h)⟩
          have hpR : p ≠ y.R := fun e => by rw [e, upd_same] at hp; cases hp
          rw [upd_ne hpR] at hp
          refine k _ { y with rd := some (r, i) } H7 rfl (fun a ha => ?_) (cc.more fun a ha => ?_) ⟨⟨dx, cc _ _ hs (ne1 hs nSR)⟩, cc _ _ hS.O (ne1 hS.O nOR), cc _ _ hS.D (ne1 hS.D nDR), ⟨evs, cc _ _ hE (ne1 hE nRE.symm), hel⟩, h4, ?_⟩ ⟨p, rfl, fresh_back e16 hp, h3⟩
          · have ha : a ∈ [y.S, y.O, y.D, y.R, y.E] ++ [r, i] := ha
            rcases List.mem_append.mp ha with ha | ha
            · exact .inl (List.mem_append_left _ ha)
            · simp only [List.mem_cons, List.not_mem_nil, or_false] at ha
              rcases ha with rfl | rfl
              · exact .inr hr0
              · exact .inr hi0
          · simp only [List.mem_cons, List.not_mem_nil, or_false] at ha
            rcases ha with rfl | rfl | rfl
            · exact .inl mR
            · exact .inr hr0
            · exact .inr hi0
          · show ([y.S, y.O, y.D, y.R, y.E] ++ [r, i]).Nodup
            have hin : ∀ a ∈ [y.S, y.O, y.D, y.R, y.E], H a ≠ none := fun a ha => by
              simp only [List.mem_cons, List.not_mem_nil, or_false] at ha
              rcases ha with rfl | rfl | rfl | rfl | rfl
              · rw [hs]; exact fun e => by cases e
              · rw [hS.O]; exact fun e => by cases e
              · rw [hS.D]; exact fun e => by cases e
              · rw [hR]; exact fun e => by cases e
              · rw [hE]; exact fun e => by cases e
            refine List.nodup_append.mpr ⟨(List.nodup_append.mp hS.nd).1, by simpa using hri, fun a ha b hb e => ?_⟩
            simp only [List.mem_cons, List.not_mem_nil, or_false] at hb
            rcases hb with rfl | rfl
            · exact hin a ha (e ▸ hr0)
            · exact hin a ha (e ▸ hi0)
    | some pr =>
      obtain ⟨r, i⟩ := pr
      cases hq : st.rd with
      | none => rw [hrd, hq] at hR; exact hR.elim
      | some q =>
        obtain ⟨ids, c⟩ := q
        rw [hrd, hq] at hR
        have hRR := hR
        obtain ⟨hR, ⟨dr, hr⟩, hi⟩ := hR
        have hids : st.ids = ids := by unfold SS.ids; rw [hq]; rfl
        have hcu : st.cu = c := by unfold SS.cu; rw [hq]; rfl
        refine q_when (b := false) (et_B (ev_dnotin (k := Sum.inr "a") (kvs := [(Sum.inr "a", .ref r)]) (o := some (.ref r)) (ev_ixT (j := 1) (v := .str "a") (ev_var (v := .ref ev) rfl) (e12 _ _ hev) rfl) (ev_fld (ev_var (v := .ref y.S) rfl) (e12 _ _ hs) (T.cls 70) (T.noat 75) rfl) (e12 _ _ hR) (valV_pos rfl))) (fun h => by cases h) fun _ H3 e3 => ?_
        have e13 := e12.trans e3
        obtain ⟨r1, r2, r3, r4, r5⟩ := hrds r (by rw [hrd]; exact .head _)
        obtain ⟨i1, i2, i3, i4, i5⟩ := hrds i (by rw [hrd]; exact .tail _ (.head _))
        refine e_got T B (dx := dx) (r := r) (i := i) (e13 _ _ hs) (e13 _ _ hev) (e13 _ _ hS.D) ?_ ⟨r4.symm, i4.symm⟩ (by rw [hids]; exact B.ids _ hq) fun p H7 hp hc h3 h4 => ?_
        · rw [hids, hcu]
          exact RdAt.ex e13 hRR
        · have cc : Ch [r, i] H H7 := Ch.trans (Ch.of e13) hc
          have ne1 : ∀ {a : Addr}, r ≠ a → i ≠ a → a ∉ [r, i] := fun n m => by
            simp only [List.mem_cons, List.not_mem_nil, or_false, not_or]
            exact ⟨n.symm, m.symm⟩
          refine k _ y H7 rfl (fun a ha => .inl ha) (cc.more fun a ha => .inl (List.mem_append_right _ (by rw [hrd]; exact ha))) ⟨⟨dx, cc _ _ hs (ne1 r1 i1)⟩, cc _ _ hS.O (ne1 r2 i2), cc _ _ hS.D (ne1 r3 i3), ⟨evs, cc _ _ hE (ne1 r5 i5), hel⟩, by rw [hrd]; exact h4, hS.nd⟩ ⟨p, rfl, fresh_back e13 hp, h3⟩
end
end Lp

/-! ## V12 -/
set_option Elab.async false
set_option linter.all false
set_option maxRecDepth 100000
set_option maxHeartbeats 4000000
/-! LiveTable. -/
namespace Lp
open PySem PySem.Spec PyProof.Rows L2 Evl
abbrev fsT (S P : Addr) : List (Str × V) := [("kept_state", .ref S), ("kept_past", .ref P)]
structure TbAt (K : PySem.W.Frag) (H : Hp) (t p : Addr) (y : SA) (s : SS) (n : Nat) : Prop where
  t : ∃ dx, H t = some (.ins (He.ga K "LiveTable") dx (fsT y.S p))
  P : ∃ past, H p = some (.lst past) ∧ past.length = n
  st : StAt K H y s
  pn : p ∉ y.own
theorem StAt.there {K : PySem.W.Frag} {H : Hp} {y : SA} {s : SS} (h : StAt K H y s) : ∀ a ∈ y.own, H a ≠ none := by
  obtain ⟨⟨dx, h1⟩, h2, h3, ⟨evs, h4, h5⟩, h6, h7⟩ := h
  intro a ha e
  have ha : a ∈ [y.S, y.O, y.D, y.R, y.E] ++ SA.rds y.rd := ha
  have hR : H y.R ≠ none ∧ ∀ a ∈ SA.rds y.rd, H a ≠ none := by
    cases hr : y.rd with
    | none =>
      cases hq : s.rd with
      | some q => rw [hr, hq] at h6; exact h6.elim
      | none =>
        rw [hr, hq] at h6
        have h6 : H y.R = some (.dK []) := h6
        exact ⟨(by rw [h6]; simp), fun a ha => absurd ha List.not_mem_nil⟩
    | some p =>
      cases hq : s.rd with
      | none => rw [hr, hq] at h6; exact h6.elim
      | some q =>
        rw [hr, hq] at h6
        obtain ⟨a1, ⟨dr, a2⟩, a3⟩ := h6
        refine ⟨(by rw [a1]; simp), fun a ha => ?_⟩
        have ha : a ∈ [p.1, p.2] := ha
        simp only [List.mem_cons, List.not_mem_nil, or_false] at ha
        rcases ha with rfl | rfl
        · rw [a2]; simp
        · rw [a3]; simp
  rcases List.mem_append.mp ha with ha | ha
  · simp only [List.mem_cons, List.not_mem_nil, or_false] at ha
    rcases ha with rfl | rfl | rfl | rfl | rfl
    · rw [h1] at e; cases e
    · rw [h2] at e; cases e
    · rw [h3] at e; cases e
    · exact hR.1 e
    · rw [h4] at e; cases e
  · exact hR.2 a ha e
theorem TbAt.ex {K : PySem.W.Frag} {H H' : Hp} {t P : Addr} {y : SA} {s : SS} {n : Nat} (e : Ex H H') (h : TbAt K H t P y s n) : TbAt K H' t P y s n := by
  obtain ⟨⟨dx, h1⟩, ⟨past, h2, h3⟩, h4, h5⟩ := h
  exact ⟨⟨dx, e _ _ h1⟩, ⟨past, e _ _ h2, h3⟩, h4.ex e, h5⟩
section
variable {P : Program} {w : World} {K : PySem.W.Frag} {mg : Str → Option Value} {base : Heap}
def spLI (K : PySem.W.Frag) : Sp := fun vs H Q _ => ∃ x dx, vs = [.ref x] ∧ H x = some (.ins (He.ga K "LiveTable") dx []) ∧ ∀ p y H', H p = none → (∀ a ∈ y.own, H a = none) → Ch [x] H H' → TbAt K H' x p y s0 0 → Q .non H'
theorem sc_LiveTable_init : FnScope ["self"] ["self"] (defScope Lh.s_LiveTable_init) := ⟨rfl, rfl, rfl, by decide +kernel, rfl, by decide +kernel, by decide +kernel⟩
theorem StAt.ch {S : List Addr} {H H' : Hp} {y : SA} {s : SS} (c : Ch S H H') (hy : ∀ a ∈ y.own, a ∉ S) (h : StAt K H y s) : StAt K H' y s := by
  obtain ⟨⟨dx, h1⟩, h2, h3, ⟨evs, h4, h5⟩, h6, h7⟩ := h
  have m1 : y.S ∈ y.own := .head _
  have m2 : y.O ∈ y.own := .tail _ (.head _)
  have m3 : y.D ∈ y.own := .tail _ (.tail _ (.head _))
  have m4 : y.R ∈ y.own := .tail _ (.tail _ (.tail _ (.head _)))
  have m5 : y.E ∈ y.own := .tail _ (.tail _ (.tail _ (.tail _ (.head _))))
  exact ⟨⟨dx, c _ _ h1 (hy _ m1)⟩, c _ _ h2 (hy _ m2), c _ _ h3 (hy _ m3), ⟨evs, c _ _ h4 (hy _ m5), h5⟩, h6.ch c (hy _ m4) fun a ha => hy a (List.mem_append_right _ ha), h7⟩
theorem ok_LiveTable_init (T : Facts K mg) : Mth P w K mg base "LiveTable" "__init__" 3 ["self"] (spLI K) := by
  obtain ⟨fd, F⟩ := T.fn 20
  refine ⟨⟨fd, go F sc_LiveTable_init ?_ fun cdv A outer s H vs Q E hr h => ?_, F.bindsN fun _ _ _ _ _ _ us hl => match us, hl with | [_], _ => rfl⟩⟩
  · rintro vs H Q E ⟨x, dx, rfl, _⟩
    rfl
  obtain ⟨x, dx, rfl, hx, k⟩ := h
  refine ⟨_, pss_cons (ps_fld (pv 0) (pe_new0 (ok_State_init T) (T.mkr 71) (T.glo 33) hr) rfl) (pss_one (ps_fld (pv 0) (pe_lst pa_nil) rfl)), ?_⟩
  refine q_fldE (e_newS fun y H1 hy e1 hY => ⟨.ref x, rfl, x, _, dx, _, rfl, e1 _ _ hx, T.cls 79, T.noat 81, by decide, ?_⟩)
  refine s_fldL (xs := []) (el_lst ea_nil (by decide)) (ev_var (v := .ref x) rfl) upd_same (T.cls 79) (T.noat 82) (by show 1 < 1000; decide) fun p H2 hp e2 h2 => ?_
  have hpx : p ≠ x := fun e => by rw [e, upd_same] at hp; cases hp
  rw [upd_ne hpx] at hp
  have hyx : ∀ a ∈ y.own, a ∉ [x] := fun a ha m => by
    rw [List.mem_singleton] at m
    rw [← m, hy a ha] at hx
    cases hx
  refine k p y _ (fresh_back e1 hp) hy (Ch.put (Ch.trans (Ch.put (Ch.of e1) (.head _)) (Ch.of e2)) (.head _)) ⟨⟨dx, upd_same⟩, ⟨[], by rw [upd_ne hpx]; exact h2, rfl⟩, ?_, fun m => hY.there p m hp⟩
  exact hY.ch (S := [x]) (Ch.put (Ch.trans (Ch.put (Ch.of (Ex.refl _)) (.head _)) (Ch.of e2)) (.head _)) hyx
/-- LiveTable() -/
theorem e_newT {σ : L2.St} {H : Hp} {Q : VK} (k : ∀ t p y H', H t = none → H p = none → (∀ a ∈ y.own, H a = none) → Ex H H' → TbAt K H' t p y s0 0 → Q (.ref t) H') : tMake (He.ga K "LiveTable") (spLI K) [] E0 tNil σ H Q := by
  intro x dx hx hdx hne
  refine ⟨x, dx, rfl, upd_same, fun p y H' hp hy hc hT => ⟨rfl, ?_⟩⟩
  have dn : ∀ {a : Addr}, upd (upd H dx (.own x)) x (.ins (He.ga K "LiveTable") dx []) a = none → H a = none := fun {a} z => by
    have hax : a ≠ x := fun e => by rw [e, upd_same] at z; cases z
    have had : a ≠ dx := fun e => by rw [e, upd_ne hne, upd_same] at z; cases z
    rw [upd_ne hax, upd_ne had] at z
    exact z
  refine k x p y H' hx (dn hp) (fun a ha => dn (hy a ha)) (fun a o e => ?_) hT
  have ax : a ≠ x := fun z => by rw [z, hx] at e; cases e
  have ad : a ≠ dx := fun z => by rw [z, hdx] at e; cases e
  refine hc a o ?_ (by simpa using ax)
  rw [upd_ne ax, upd_ne ad]
  exact e
/-- what a call does -/
def PostT (K : PySem.W.Frag) (H : Hp) (t p : Addr) (s : SS) (n : Nat) (ek : EvK) (Q : VK) : Prop := ∀ v z H', (∀ a ∈ z.own, H a = none) → Ch [t, p] H H' → TbAt K H' t p z (step s ek) (n + 1) → Back s H v H' ek → Q v H'
theorem Back.back {s : SS} {H H1 H' : Hp} {v : V} {ek : EvK} (e : ∀ a, H1 a = none → H a = none) (h : Back s H1 v H' ek) : Back s H v H' ek := by
  cases ek with
  | beg => trivial
  | com x => trivial
  | pol =>
    obtain ⟨p, h1, h2, h3⟩ := h
    exact ⟨p, h1, e _ h2, h3⟩
theorem PostT.ex {H H1 : Hp} {t p : Addr} {s : SS} {n : Nat} {ek : EvK} {Q : VK} (e : Ex H H1) (k : PostT K H t p s n ek Q) : PostT K H1 t p s n ek Q := fun v z H' h1 h2 h3 h4 => k v z H' (fun a ha => fresh_back e (h1 a ha)) (Ch.trans (Ch.of e) h2) h3 (h4.back fun a ha => fresh_back e ha)
structure PreT (K : PySem.W.Frag) (H : Hp) (t p : Addr) (y : SA) (s : SS) (n : Nat) (ek : EvK) : Prop where
  tb : TbAt K H t p y s n
  bd : Bd s
  ev : ek = .pol ∨ s.ev < 60
  n : n ≤ 1000
  ok : okE s ek
theorem PreT.ex {H H1 : Hp} {t p : Addr} {y : SA} {s : SS} {n : Nat} {ek : EvK} (e : Ex H H1) (h : PreT K H t p y s n ek) : PreT K H1 t p y s n ek := ⟨h.tb.ex e, h.bd, h.ev, h.n, h.ok⟩
theorem ret_meth {C : Addr} {m : Str} {sp : Sp} {dvs : List V} {E : XK} {ta : TE} {t : TA} {D : Ends} {σ : L2.St} {H : Hp} (h : ta σ H fun x H1 => ∃ a dx fs, x = .ref a ∧ H1 a = some (.ins C dx fs) ∧ fs.lookup m = none ∧ t σ H1 fun vs H2 => sp (x :: (vs ++ dvs)) H2 (fun v H3 => D.rt v H3) E) : tRet (tMeth C m sp dvs E ta t) D σ H := h
def spCall (K : PySem.W.Frag) : Sp := fun vs H Q _ => ∃ t p y s n ev ek, vs = [.ref t, .ref ev] ∧ PreT K H t p y s n ek ∧ H ev = some (.tup (EvK.tup ek)) ∧ PostT K H t p s n ek Q
theorem sc_LiveTable_call : FnScope ["self", "event"] ["self", "event"] (defScope Lh.s_LiveTable_call) := ⟨rfl, rfl, rfl, by decide +kernel, rfl, by decide +kernel, by decide +kernel⟩
theorem ok_LiveTable_call (T : Facts K mg) : Mth P w K mg base "LiveTable" "call" 5 ["self", "event"] (spCall K) := by
  obtain ⟨fd, F⟩ := T.fn 22
  refine ⟨⟨fd, go F sc_LiveTable_call ?_ fun cdv A outer s H vs Q E hr h => ?_, F.bindsN fun _ _ _ _ _ _ us hl => match us, hl with | [_, _], _ => rfl⟩⟩
  · rintro vs H Q E ⟨t, p, y, s, n, ev, ek, rfl, _⟩
    rfl
  obtain ⟨t, p, y, st, n, ev, ek, rfl, R, hev, k⟩ := h
  refine ⟨_, pss_cons (ps_if (PW.pt (pw_and (pt_cmpR op_ne (pe_ix ix_tup (pv 1) pe_int (fun _ _ => rfl)) (pe_gstr T.c_POLL) (nomark _)) (pw_and1 (pt_cmpR op_eq (pe_callB call_len_seq rfl T.n_len boot_len (pa_cons (pe_fld (pe_fld (pv 0) rfl) rfl) pa_nil)) (pe_gint T.c_MOST_EVENTS) (nomark _))))) (pss_one ps_never) pss_nil)
    (pss_cons (ps_expr (pe_bm PySem.F.plainAttrs_list PySem.F.slot_list_append PySem.F.type_list_append mt_append (pe_fld (pv 0) rfl) (pa_cons (pe_fld (pv 0) rfl) pa_nil)))
    (pss_cons (ps_fld (pv 0) (pe_mth0 (ok_State_doubled T) (T.meth 77) (T.cls 70) hr (pe_fld (pv 0) rfl)) rfl)
    (pss_one (ps_ret (pe_mth (ok_State_put T) (T.meth 78) (T.cls 70) (hr.mono (by decide)) (pe_fld (pv 0) rfl) (pa_cons (pv 1) pa_nil)))))), ?_⟩
  obtain ⟨⟨dt, ht⟩, ⟨past, hP, hPl⟩, hS⟩ := R.tb
  obtain ⟨dS, hs⟩ := hS.S
  obtain ⟨evs, hE, hel⟩ := hS.E
  have htp : t ≠ p := fun e => by rw [e, hP] at ht; cases ht
  have hw : ∃ w0, (EvK.tup ek)[0]? = some (.str w0) ∧ (w0 = "poll" ∨ st.ev < 60) := by
    rcases R.ev with rfl | h
    · exact ⟨"poll", rfl, .inl rfl⟩
    · cases ek with
      | beg => exact ⟨"begin", rfl, .inr h⟩
      | com x => exact ⟨"commit", rfl, .inr h⟩
      | pol => exact ⟨"poll", rfl, .inl rfl⟩
  obtain ⟨w0, hw0, hw1⟩ := hw
  refine q_when (b := false) (et_is (et_and (et_test (ev_op (ev_ixT (j := 0) (v := .str w0) (ev_var (v := .ref ev) rfl) hev hw0) (ev_c (v := .str "poll")) (rv_ne rfl))) fun _ => et_test (ev_op (ev_len' (ev_fld (ev_fld (ev_var (v := .ref t) rfl) ht (T.cls 79) (T.noat 81) rfl) hs (T.cls 70) (T.noat 76) rfl) (SqL.of hE)) ev_c (rv_eq rfl))) ?_) (fun h => by cases h) fun _ H1 e1 => ?_
  · rcases hw1 with rfl | h
    · rfl
    · have : decide ((V.int (evs.length : Int)) = V.int 60) = false := decide_eq_false fun e => by
        injection e with e
        omega
      rw [this, Bool.and_false]
  refine q_app (l := p) (e1 _ _ hP) (ev_fld (ev_var (v := .ref t) rfl) (e1 _ _ ht) (T.cls 79) (T.noat 82) rfl) (ev_fld (v := .ref y.S) (ev_var (v := .ref t) rfl) (e1 _ _ ht) (T.cls 79) (T.noat 81) rfl) (by have := R.n; omega) fun H2 e2 => ?_
  have e12 := e1.trans e2
  have hp3 : upd H2 p (.lst (past ++ [.ref y.S])) p = some (.lst (past ++ [.ref y.S])) := upd_same
  have c3 : Ch [p] H (upd H2 p (.lst (past ++ [.ref y.S]))) := Ch.put (Ch.of e12) (.head _)
  generalize upd H2 p (.lst (past ++ [.ref y.S])) = H3 at hp3 c3
  have ht3 : H3 t = some (.ins (He.ga K "LiveTable") dt (fsT y.S p)) := c3 _ _ ht (by simpa using htp)
  have hS3 : StAt K H3 y st := hS.ch c3 fun a ha m => R.tb.pn (by rw [List.mem_singleton] at m; exact m ▸ ha)
  refine q_fldE ?_
  refine (ev_fld (ev_var (v := .ref t) (i := 0) rfl) ht3 (T.cls 79) (T.noat 81) rfl : Ev _ [some (.ref t), some (.ref ev)] H3 (.ref y.S)) H3 (Ex.refl _) _ fun H4 e4 => ?_
  obtain ⟨dS3, hs3⟩ := hS3.S
  refine ⟨y.S, dS3, _, rfl, e4 _ _ hs3, rfl, y, st, rfl, hS3.ex e4, R.bd, fun z H5 hz e5 hZ => ?_⟩
  refine ⟨.ref t, rfl, t, _, dt, _, rfl, (e4.trans e5) _ _ ht3, T.cls 79, T.noat 81, by show 2 < 1000; decide, ?_⟩
  have hzt : t ∉ z.own := fun m => by
    have := hz t m
    rw [e4 _ _ ht3] at this
    cases this
  have hzp : p ∉ z.own := fun m => by
    have := hz p m
    rw [e4 _ _ hp3] at this
    cases this
  have ht6 : upd H5 t (.ins (He.ga K "LiveTable") dt (putF "kept_state" (.ref z.S) (fsT y.S p))) t = some (.ins (He.ga K "LiveTable") dt (fsT z.S p)) := upd_same
  have c6 : Ch [t] H3 (upd H5 t (.ins (He.ga K "LiveTable") dt (putF "kept_state" (.ref z.S) (fsT y.S p)))) := Ch.put (Ch.of (e4.trans e5)) (.head _)
  have hZ6 : StAt K (upd H5 t (.ins (He.ga K "LiveTable") dt (putF "kept_state" (.ref z.S) (fsT y.S p)))) z st := hZ.ch (S := [t]) (Ch.put (Ch.of (Ex.refl _)) (.head _)) fun a ha m => hzt (by rw [List.mem_singleton] at m; exact m ▸ ha)
  generalize upd H5 t (.ins (He.ga K "LiveTable") dt (putF "kept_state" (.ref z.S) (fsT y.S p))) = H6 at ht6 c6 hZ6 ⊢
  have hp6 : H6 p = some (.lst (past ++ [.ref y.S])) := c6 _ _ hp3 (by simpa using htp.symm)
  refine ret_meth ?_
  refine (ev_fld (ev_var (v := .ref t) (i := 0) rfl) ht6 (T.cls 79) (T.noat 81) rfl : Ev _ [some (.ref t), some (.ref ev)] H6 (.ref z.S)) H6 (Ex.refl _) _ fun H7 e7 => ?_
  obtain ⟨dz, hz6⟩ := hZ6.S
  refine ⟨z.S, dz, _, rfl, e7 _ _ hz6, rfl, ?_⟩
  refine (ea_cons (ev_var (v := .ref ev) (i := 1) rfl) ea_nil : EvA _ [some (.ref t), some (.ref ev)] H7 [.ref ev]) H7 (Ex.refl _) _ fun H8 e8 => ?_
  have e68 := e7.trans e8
  have c8 : Ch [t, p] H H8 := Ch.trans (Ch.trans (c3.more fun a ha => .inl (.tail _ ha)) (c6.more fun a ha => .inl (by rw [List.mem_singleton] at ha; rw [ha]; exact .head _))) (Ch.of e68)
  have back8 : ∀ a, H8 a = none → H a = none := fun a h => by
    cases e : H a with
    | none => rfl
    | some o =>
      by_cases hat : a = t
      · rw [hat, e68 _ _ ht6] at h; cases h
      · by_cases hap : a = p
        · rw [hap, e68 _ _ hp6] at h; cases h
        · rw [c8 a o e (by simp only [List.mem_cons, List.not_mem_nil, or_false, not_or]; exact ⟨hat, hap⟩)] at h; cases h
  have hz0 : ∀ a ∈ z.own, H a = none := fun a ha => by
    cases e : H a with
    | none => rfl
    | some o =>
      have hap : a ≠ p := fun e => hzp (e ▸ ha)
      have := hz a ha
      rw [e4 _ _ (c3 a o e (by simpa using hap))] at this
      cases this
  have hevn : ev ∉ [t, p] := by
    simp only [List.mem_cons, List.not_mem_nil, or_false, not_or]
    exact ⟨(fun e => by rw [e, ht] at hev; cases hev), (fun e => by rw [e, hP] at hev; cases hev)⟩
  refine ⟨z, st, ev, ek, rfl, hZ6.ex e68, R.bd, c8 _ _ hev hevn, R.ok, fun v z' H9 hS' hown hc hZ' hB => ?_⟩
  have ho' : ∀ a ∈ z'.own, H a = none := fun a ha => (hown a ha).elim (hz0 a) (back8 a)
  refine k v z' H9 ho' (fun a o e n => hc a o (c8 a o e n) fun m => by rw [hz0 a m] at e; cases e) ⟨⟨dt, ?_⟩, ⟨past ++ [.ref y.S], hc _ _ (e68 _ _ hp6) hzp, by rw [List.length_append, hPl]; rfl⟩, hZ', fun m => ?_⟩ (hB.back back8)
  · rw [hS']
    exact hc _ _ (e68 _ _ ht6) hzt
  · have := ho' p m
    rw [hP] at this
    cases this
/-! begin, commit, poll -/
def spBeg (K : PySem.W.Frag) : Sp := fun vs H Q _ => ∃ t p y s n, vs = [.ref t] ∧ PreT K H t p y s n .beg ∧ PostT K H t p s n .beg Q
theorem sc_LiveTable_begin : FnScope ["self"] ["self"] (defScope Lh.s_LiveTable_begin) := ⟨rfl, rfl, rfl, by decide +kernel, rfl, by decide +kernel, by decide +kernel⟩
/-- self.call(an event) -/
theorem s_callEv (T : Facts K mg) {σ : L2.St} {H : Hp} {D : Ends} {t p : Addr} {y : SA} {s : SS} {n : Nat} {ek : EvK} {ta : TA} (h0 : σ[0]? = some (some (.ref t))) (R : PreT K H t p y s n ek) (hv : EvA ta σ H (EvK.tup ek)) (k : PostT K H t p s n ek D.rt) :
    tRet (tMeth (He.ga K "LiveTable") "call" (spCall K) [] E0 (tVar 0) (tCons (tTup ta) tNil)) D σ H := by
  obtain ⟨dt, ht⟩ := R.tb.t
  refine ⟨.ref t, h0, t, dt, _, rfl, ht, rfl, ?_⟩
  refine cons_in ?_
  refine (eu_tup hv (by cases ek <;> simp [EvK.tup]) : EvU _ σ H _) H (Ex.refl _) _ fun q H1 hq e1 h1 => ?_
  exact ⟨t, p, y, s, n, q, ek, rfl, R.ex e1, h1, k.ex e1⟩
theorem ok_LiveTable_begin (T : Facts K mg) : Mth P w K mg base "LiveTable" "begin" 6 ["self"] (spBeg K) := by
  obtain ⟨fd, F⟩ := T.fn 23
  refine ⟨⟨fd, go F sc_LiveTable_begin ?_ fun cdv A outer s H vs Q E hr h => ?_, F.bindsN fun _ _ _ _ _ _ us hl => match us, hl with | [_], _ => rfl⟩⟩
  · rintro vs H Q E ⟨t, p, y, s, n, rfl, _⟩
    rfl
  obtain ⟨t, p, y, st, n, rfl, R, k⟩ := h
  refine ⟨_, pss_one (ps_ret (pe_mth (ok_LiveTable_call T) (T.meth 84) (T.cls 79) hr (pv 0) (pa_cons (pe_tup (pa_cons pe_str pa_nil)) pa_nil))), ?_⟩
  exact s_callEv T (ek := .beg) rfl R (ea_cons ev_c ea_nil) k
def spOpen (K : PySem.W.Frag) : Sp := fun vs H Q _ => ∃ t p y s n x, vs = [.ref t, .int x] ∧ TbAt K H t p y s n ∧ x ∈ s.op ∧ 1 ≤ x ∧ RetV .non H Q
theorem sc_LiveTable_require_open : FnScope ["self", "row"] ["self", "row"] (defScope Lh.s_LiveTable_require_open) := ⟨rfl, rfl, rfl, by decide +kernel, rfl, by decide +kernel, by decide +kernel⟩
theorem ok_LiveTable_require_open (T : Facts K mg) : Mth P w K mg base "LiveTable" "require_open" 2 ["self", "row"] (spOpen K) := by
  obtain ⟨fd, F⟩ := T.fn 21
  refine ⟨⟨fd, go F sc_LiveTable_require_open ?_ fun cdv A outer s H vs Q E hr h => ?_, F.bindsN fun _ _ _ _ _ _ us hl => match us, hl with | [_, _], _ => rfl⟩⟩
  · rintro vs H Q E ⟨t, p, y, s, n, x, rfl, _⟩
    rfl
  obtain ⟨t, p, y, st, n, x, rfl, R, hx, hx1, k⟩ := h
  have hu := hu_of hr
  obtain ⟨dt, ht⟩ := R.t
  obtain ⟨dS, hs⟩ := R.st.S
  refine ⟨_, pss_one (ps_if (PW.pt (pw_or (pt_not (pt_val (pe_def (ok_is_integer2 T) hr (pa_cons (pv 1) (pa_cons pe_int pa_nil))))) (pw_or1 (pt_cmp (pc_dnotin hu (pv 1) (pe_fld (pe_fld (pv 0) rfl) rfl)) rfl)))) (pss_one ps_never) pss_nil), ?_⟩
  refine s_when (b := false) (et_is (et_or (a := false) (et_not (a := true) (et_B (ev_spV (ea_cons (ev_var rfl) (ea_cons ev_c ea_nil)) rfl fun H1 e => ⟨x, 1, .non, rfl, .inl ⟨rfl, by rw [decide_eq_true hx1]⟩⟩))) fun _ =>
    et_B (ev_dnotin (k := Sum.inl x) (ev_var rfl) (ev_fld (ev_fld (ev_var (v := .ref t) rfl) ht (T.cls 79) (T.noat 81) rfl) hs (T.cls 70) (T.noat 73) rfl) R.st.O rfl)) ?_) (fun h => by cases h) fun _ H1 e1 => k H1 e1
  rw [trues_get, decide_eq_true hx]
  rfl
def spCom (K : PySem.W.Frag) : Sp := fun vs H Q _ => ∃ t p y s n x, vs = [.ref t, .int x] ∧ PreT K H t p y s n (.com x) ∧ 1 ≤ x ∧ PostT K H t p s n (.com x) Q
theorem sc_LiveTable_commit : FnScope ["self", "row"] ["self", "row"] (defScope Lh.s_LiveTable_commit) := ⟨rfl, rfl, rfl, by decide +kernel, rfl, by decide +kernel, by decide +kernel⟩
theorem ok_LiveTable_commit (T : Facts K mg) : Mth P w K mg base "LiveTable" "commit" 6 ["self", "row"] (spCom K) := by
  obtain ⟨fd, F⟩ := T.fn 24
  refine ⟨⟨fd, go F sc_LiveTable_commit ?_ fun cdv A outer s H vs Q E hr h => ?_, F.bindsN fun _ _ _ _ _ _ us hl => match us, hl with | [_, _], _ => rfl⟩⟩
  · rintro vs H Q E ⟨t, p, y, s, n, x, rfl, _⟩
    rfl
  obtain ⟨t, p, y, st, n, x, rfl, R, hx1, k⟩ := h
  obtain ⟨dt, ht⟩ := R.tb.t
  refine ⟨_, pss_cons (ps_expr (pe_mth (ok_LiveTable_require_open T) (T.meth 83) (T.cls 79) (hr.mono (by decide)) (pv 0) (pa_cons (pv 1) pa_nil)))
    (pss_one (ps_ret (pe_mth (ok_LiveTable_call T) (T.meth 84) (T.cls 79) hr (pv 0) (pa_cons (pe_tup (pa_cons pe_str (pa_cons (pv 1) pa_nil))) pa_nil)))), ?_⟩
  refine ⟨.ref t, rfl, t, dt, _, rfl, ht, rfl, ?_⟩
  refine ⟨.int x, rfl, t, p, y, st, n, x, rfl, R.tb, R.ok, hx1, fun H1 e1 => ?_⟩
  exact s_callEv (σ := [some (.ref t), some (.int x)]) T (ek := .com x) rfl (R.ex e1) (ea_cons ev_c (ea_cons (ev_var rfl) ea_nil)) (k.ex e1)
def spPoll (K : PySem.W.Frag) : Sp := fun vs H Q _ => ∃ t p y s n, vs = [.ref t, .str "a"] ∧ PreT K H t p y s n .pol ∧ PostT K H t p s n .pol Q
theorem sc_LiveTable_poll : FnScope ["self", "name"] ["self", "name"] (defScope Lh.s_LiveTable_poll) := ⟨rfl, rfl, rfl, by decide +kernel, rfl, by decide +kernel, by decide +kernel⟩
theorem ok_LiveTable_poll (T : Facts K mg) : Mth P w K mg base "LiveTable" "poll" 6 ["self", "name"] (spPoll K) := by
  obtain ⟨fd, F⟩ := T.fn 25
  refine ⟨⟨fd, go F sc_LiveTable_poll ?_ fun cdv A outer s H vs Q E hr h => ?_, F.bindsN fun _ _ _ _ _ _ us hl => match us, hl with | [_, _], _ => rfl⟩⟩
  · rintro vs H Q E ⟨t, p, y, s, n, rfl, _⟩
    rfl
  obtain ⟨t, p, y, st, n, rfl, R, k⟩ := h
  refine ⟨_, pss_cons (ps_expr (pe_def (ok_require_name T) (hr.mono (by decide)) (pa_cons (pv 1) pa_nil)))
    (pss_one (ps_ret (pe_mth (ok_LiveTable_call T) (T.meth 84) (T.cls 79) hr (pv 0) (pa_cons (pe_tup (pa_cons (pe_gstr T.c_POLL) (pa_cons (pv 1) pa_nil))) pa_nil)))), ?_⟩
  refine q_drop (ev_spV (z := .non) (ea_cons (ev_var rfl) ea_nil) rfl fun H1 e => ⟨rfl, rfl⟩) fun H1 e1 => ?_
  exact s_callEv (σ := [some (.ref t), some (.str "a")]) T (ek := .pol) rfl (R.ex e1) (ea_cons ev_c (ea_cons (ev_var rfl) ea_nil)) (k.ex e1)
end
end Lp

/-! ## V13 -/
set_option Elab.async false
set_option linter.all false
set_option maxRecDepth 100000
set_option maxHeartbeats 4000000
/-! LiveTable.lost_of. -/
namespace Lp
open PySem PySem.Spec PyProof.Rows L2 Evl
theorem op_notInK {X : Cx} {K : PySem.W.Frag} (hK : X.K = K := by rfl) : OpR X (compareOp .NotIn) (rIn K true) := hK ▸ op_notIn_seq
theorem op_inK {X : Cx} {K : PySem.W.Frag} (hK : X.K = K := by rfl) : OpR X (compareOp .In) (rIn K false) := hK ▸ op_in_seq
section
variable {P : Program} {w : World} {K : PySem.W.Frag} {mg : Str → Option Value} {base : Heap}
def lostOf (s : SS) : List Int := match s.rd with
  | none => []
  | some (ids, c) => Lm.srt ((s.ord.filter fun x => decide (x < c)).filter fun x => !decide (x ∈ ids))
def spLostOf (K : PySem.W.Frag) : Sp := fun vs H Q _ => ∃ t p y s n, vs = [.ref t, .str "a"] ∧ TbAt K H t p y s n ∧ Bd s ∧ RetL ((lostOf s).map V.int) H Q
def nmLostOf : List Str := ["self", "name", "reader", "below", "row"]
theorem sc_LiveTable_lost_of : FnScope nmLostOf ["self", "name"] (defScope Lh.s_LiveTable_lost_of) := ⟨rfl, rfl, rfl, by decide +kernel, rfl, by decide +kernel, by decide +kernel⟩
theorem ok_LiveTable_lost_of (T : Facts K mg) : Mth P w K mg base "LiveTable" "lost_of" 3 ["self", "name"] (spLostOf K) := by
  obtain ⟨fd, F⟩ := T.fn 26
  refine ⟨⟨fd, go F sc_LiveTable_lost_of ?_ fun cdv A outer s H vs Q E hr h => ?_, F.bindsN fun _ _ _ _ _ _ us hl => match us, hl with | [_, _], _ => rfl⟩⟩
  · rintro vs H Q E ⟨t, p, y, s, n, rfl, _⟩
    rfl
  obtain ⟨t, p, y, st, n, rfl, R, B, k⟩ := h
  have hu := hu_of hr
  have nd := sc_LiveTable_lost_of.nd
  refine ⟨_, pss_cons (ps_expr (pe_def (ok_require_name T) hr (pa_cons (pv 1) pa_nil)))
    (pss_cons (ps_if (pt_cmp (pc_dnotin hu (pv 1) (pe_fld (pe_fld (pv 0) rfl) rfl)) rfl) (pss_one (ps_ret (pe_lst pa_nil))) pss_nil)
    (pss_cons (ps_set (i := 2) nd rfl (Or.inr rfl) (pe_dget hu (pe_fld (pe_fld (pv 0) rfl) rfl) (pv 1) fun _ _ => rfl))
    (pss_cons (ps_setLc (i := 3) (own := [("row", 4)]) (g := gName 4) rfl nd rfl rfl (sw_true rfl rfl rfl rfl) (pi_list (pe_fld (pe_fld (pv 0) rfl) rfl)) (blkOk_by (own := [("row", 4)]) (N := nmLostOf) (sc := defScope Lh.s_LiveTable_lost_of) (by decide +kernel))
      (fun _ _ _ _ _ => pg_name (i := 4) nd rfl (Or.inl rfl)) (fun _ _ _ _ _ => pts_one (pt_cmpR op_lt (pv 4) (pe_fldK (K := K) (pv 2)) (nomark _))) (fun _ _ _ _ _ => pv 4))
    (pss_one (ps_ret (pe_callB cr_sortedI rfl T.n_sorted boot_sorted (pa_cons (pe_lc (own := [("row", 4)]) (g := gName 4) rfl nd (pi_list (pv 3)) (blkOk_by (own := [("row", 4)]) (N := nmLostOf) (sc := defScope Lh.s_LiveTable_lost_of) (by decide +kernel))
      (fun _ _ _ _ _ => pg_name (i := 4) nd rfl (Or.inl rfl)) (fun _ _ _ _ _ => pts_one (pt_cmpR (op_notInK (K := K)) (pv 4) (pe_fldK (K := K) (pv 2)) rfl)) (fun _ _ _ _ _ => pv 4)) pa_nil))))))), ?_⟩
  obtain ⟨dt, ht⟩ := R.t
  obtain ⟨dS, hs⟩ := R.st.S
  have hR := R.st.R
  refine q_drop (ev_spV (z := .non) (ea_cons (ev_var rfl) ea_nil) rfl fun H1 e => ⟨rfl, rfl⟩) fun H1 e1 => ?_
  cases hq : st.rd with
  | none =>
    cases hrd : y.rd with
    | some q => rw [hrd, hq] at hR; exact hR.elim
    | none =>
      rw [hrd, hq] at hR
      have hR : H y.R = some (.dK []) := hR
      refine q_when (b := true) (et_B (ev_dnotin (k := Sum.inr "a") (kvs := []) (o := none) (ev_var (v := .str "a") rfl) (ev_fld (ev_fld (ev_var (v := .ref t) rfl) (e1 _ _ ht) (T.cls 79) (T.noat 81) rfl) (e1 _ _ hs) (T.cls 70) (T.noat 75) rfl) (e1 _ _ hR) rfl)) (fun _ H2 e2 => ?_) (fun h => by cases h)
      refine s_retL (xs := []) (el_lst ea_nil (by decide)) fun q H3 hq3 e3 h3 => k q H3 (fresh_back (e1.trans e2) hq3) ((e1.trans e2).trans e3) ?_
      unfold lostOf
      rw [hq]
      exact h3
  | some q =>
    obtain ⟨ids, c⟩ := q
    cases hrd : y.rd with
    | none => rw [hrd, hq] at hR; exact hR.elim
    | some q =>
      obtain ⟨r, i⟩ := q
      rw [hrd, hq] at hR
      obtain ⟨hR, ⟨dr, hr⟩, hi⟩ := hR
      have hil := B.ids _ hq
      refine q_when (b := false) (et_B (ev_dnotin (k := Sum.inr "a") (kvs := [(Sum.inr "a", .ref r)]) (o := some (.ref r)) (ev_var (v := .str "a") rfl) (ev_fld (ev_fld (ev_var (v := .ref t) rfl) (e1 _ _ ht) (T.cls 79) (T.noat 81) rfl) (e1 _ _ hs) (T.cls 70) (T.noat 75) rfl) (e1 _ _ hR) (valV_pos rfl))) (fun h => by cases h) fun _ H2 e2 => ?_
      have e12 := e1.trans e2
      refine q_asg (v := .ref r) (ev_dget (k := Sum.inr "a") (kvs := [(Sum.inr "a", .ref r)]) (ev_fld (ev_fld (ev_var (v := .ref t) rfl) (e12 _ _ ht) (T.cls 79) (T.noat 81) rfl) (e12 _ _ hs) (T.cls 70) (T.noat 75) rfl) (ev_var (v := .str "a") rfl) (e12 _ _ hR) (valV_pos rfl)) fun H3 e3 => ?_
      have e13 := e12.trans e3
      have ho := B.ord
      refine q_asgL (xs := (st.ord.filter fun x => decide (x < c)).map V.int) (el_flt (em := V.int) (fun x => decide (x < c)) (ev_fld (ev_fld (ev_var (v := .ref t) rfl) (e13 _ _ ht) (T.cls 79) (T.noat 81) rfl) (e13 _ _ hs) (T.cls 70) (T.noat 74) rfl) (SqL.of (e13 _ _ R.st.D)) (by omega) (fun x => rfl) (fun x => rfl) fun x hx H4 e4 =>
        et_test (ev_op (ev_var rfl) (ev_fld (ev_var (v := .ref r) rfl) ((e13.trans e4) _ _ hr) (T.cls 64) (T.noat 67) rfl) rv_I0)) fun b H4 hb e4 h4 => ?_
      have e14 := e13.trans e4
      have hfl := List.length_filter_le (fun x => decide (x < c)) st.ord
      refine s_retL (xs := (Lm.srt ((st.ord.filter fun x => decide (x < c)).filter fun x => !decide (x ∈ ids))).map V.int) (el_sortedN (el_flt (em := V.int) (fun x => !decide (x ∈ ids)) (ev_var (v := .ref b) rfl) (SqL.of h4) (by omega) (fun x => rfl) (fun x => rfl) fun x hx H5 e5 =>
        et_is (et_test (ev_op (ev_var rfl) (ev_fld (ev_var (v := .ref r) rfl) ((e14.trans e5) _ _ hr) (T.cls 64) (T.noat 66) rfl) (rv_niL (SqL.of ((e14.trans e5) _ _ hi)) rfl (flat_ints ids)))) (by rw [inV_int]))) fun q H5 hq5 e5 h5 => k q H5 (fresh_back e14 hq5) (e14.trans e5) ?_
      unfold lostOf
      rw [hq]
      exact h5
end
end Lp

/-! ## V14 -/
set_option Elab.async false
set_option linter.all false
set_option maxRecDepth 100000
set_option maxHeartbeats 4000000
/-! The law's source of numbers. -/
namespace Lp
open PySem PySem.Spec PyProof.Rows L2 Evl
/-- a source after at most n draws from its second kind -/
def Src (H : Hp) (a : Addr) (n : Nat) : Prop := ∃ (i0 i1 : Int) (i2 : Nat), H a = some (.lst [.int i0, .int i1, .int (i2 : Int)]) ∧ 0 ≤ i0 ∧ 0 ≤ i1 ∧ i1 < 2 ^ 200 ∧ i2 ≤ n
theorem Src.ex {H H' : Hp} {a : Addr} {n : Nat} (e : Ex H H') (h : Src H a n) : Src H' a n := by
  obtain ⟨i0, i1, i2, h1, h2⟩ := h
  exact ⟨i0, i1, i2, e _ _ h1, h2⟩
theorem Src.le {H : Hp} {a : Addr} {n m : Nat} (e : n ≤ m) (h : Src H a n) : Src H a m := by
  obtain ⟨i0, i1, i2, h1, h2, h3, h4, h5⟩ := h
  exact ⟨i0, i1, i2, h1, h2, h3, h4, Nat.le_trans h5 e⟩
section
variable {P : Program} {w : World} {K : PySem.W.Frag} {mg : Str → Option Value} {base : Heap}
def spSource (K : PySem.W.Frag) : Sp := fun vs H Q _ => ∃ (a : Addr) (ns : List Int) (k : Nat), vs = [.ref a, .int (k : Int)] ∧ SqL K H a (ns.map V.int) ∧ k ≤ 100 ∧ ∀ p H', H p = none → Ex H H' → Src H' p 0 → Q (.ref p) H'
def nmSource : List Str := ["_law_script", "_law_k", "_law_cell"]
theorem sc_source : FnScope nmSource ["_law_script", "_law_k"] (defScope Lh.s_law_source) := ⟨rfl, rfl, rfl, by decide +kernel, rfl, by decide +kernel, by decide +kernel⟩
theorem ok_source (T : Facts K mg) : Def P w K mg base "_law_source" 1 ["_law_script", "_law_k"] [] (spSource K) := by
  obtain ⟨fd, F⟩ := T.fn 36
  refine ⟨⟨fd, [], go F sc_source ?_ fun cdv A outer s H vs Q E hr h => ?_, F.bindsN fun _ _ _ _ _ _ us hl => match us, hl with | [_, _], _ => rfl, .nil⟩, T.glo 23, F.kp⟩
  · rintro vs H Q E ⟨a, ns, k, rfl, _⟩
    rfl
  obtain ⟨a, ns, j, rfl, hs, hj, k⟩ := h
  have nd := sc_source.nd
  refine ⟨_, pss_cons (ps_set (i := 2) nd rfl (Or.inl rfl) (pe_ifExp (pt_cmpR op_lt (pv 1) (pe_callB call_len_seq rfl T.n_len boot_len (pa_cons (pv 0) pa_nil)) (nomark _)) (pe_ix ix_list (pv 0) (pv 1) (fun _ _ => rfl)) pe_int))
    (pss_one (ps_ret (pe_lst (pa_cons (pe_callB (call_max2 rfl) rfl T.n_max boot_max (pa_cons pe_int (pa_cons (pe_op op_sub (pv 2) (pe_op op_pow pe_int pe_int)) pa_nil)))
      (pa_cons (pe_op op_add (pe_op op_mul (pe_op op_add (pe_op op_mod (pv 2) (pe_op op_add (pe_op op_pow pe_int pe_int) pe_int)) pe_int) pe_int) (pv 1)) (pa_cons pe_int pa_nil)))))), ?_⟩
  obtain ⟨c, hc⟩ : ∃ c : Int, Ev (tIf (tTest (tOp (rI0 fun i j => .bl (decide (i < j))) (tVar 1) (tCB (fun xs H Q => ∃ p ys, xs = [.ref p] ∧ (SqL K H p ys ∨ SqT K H p ys) ∧ Q (.int ys.length) H) (tCons (tVar 0) tNil)))) (tOp (rIxL K) (tVar 0) (tVar 1)) (tC (.int 0))) [some (.ref a), some (.int (j : Int)), none] H (.int c) := by
    by_cases hlt : j < ns.length
    · refine ⟨ns[j], ev_if (b := true) (et_is (et_test (ev_op (ev_var rfl) (ev_len' (ev_var (v := .ref a) rfl) hs) rv_I0)) (by rw [List.length_map]; exact decide_eq_true (by omega))) (fun _ => ev_op (ev_var (v := .ref a) rfl) (ev_var (v := .int (j : Int)) rfl) (rv_ixL hs (atI_nat (by rw [List.getElem?_map, List.getElem?_eq_getElem hlt]; rfl)))) (fun h => by cases h)⟩
    · exact ⟨0, ev_if (b := false) (et_is (et_test (ev_op (ev_var rfl) (ev_len' (ev_var (v := .ref a) rfl) hs) rv_I0)) (by rw [List.length_map]; exact decide_eq_false (by omega))) (fun h => by cases h) (fun _ => ev_c)⟩
  refine q_asg hc fun H1 e1 => ?_
  have hm0 : 0 ≤ c % (10 ^ 38 + 133) := Int.emod_nonneg _ (by decide)
  have hm1 : c % (10 ^ 38 + 133) < 10 ^ 38 + 133 := Int.emod_lt_of_pos _ (by decide)
  refine s_retL (el_lst (ea_cons (ev_max2 ev_c (ev_op (ev_var (v := .int c) rfl) (ev_op ev_c ev_c (rv_I ⟨by decide, by decide, by decide⟩)) rv_I0)) (ea_cons (ev_op (ev_op (ev_op (ev_op (ev_var (v := .int c) rfl) (ev_op (ev_op ev_c ev_c (rv_I (i := 10) (j := 38) ⟨by decide, by decide, by decide⟩)) ev_c rv_I0) (rv_I (by decide))) ev_c rv_I0) ev_c (rv_I (.inr (by decide)))) (ev_var (v := .int (j : Int)) rfl) rv_I0) (ea_cons ev_c ea_nil))) (by show 3 ≤ 100000; decide)) fun p H2 hp e2 h2 => k p H2 (fresh_back e1 hp) (e1.trans e2) ⟨_, _, 0, h2, ?_, ?_, ?_, Nat.le_refl _⟩
  · split <;> omega
  · show (0 : Int) ≤ (c % (10 ^ 38 + 133) + 1) * 64 + (j : Int)
    omega
  · show (c % (10 ^ 38 + 133) + 1) * 64 + (j : Int) < 2 ^ 200
    omega
def spDraw : Sp := fun vs H Q _ => ∃ (a : Addr) (n : Nat) (l : Int), vs = [.ref a, .int l] ∧ Src H a n ∧ n ≤ 1000000 ∧ 1 ≤ l ∧ l < 2 ^ 200 ∧ ∀ v H', 0 ≤ v → v < l → Ch [a] H H' → Src H' a (n + 1) → Q (.int v) H'
def nmDraw : List Str := ["_law_source_here", "_law_limit", "_law_result", "_law_mixed"]
theorem sc_draw : FnScope nmDraw ["_law_source_here", "_law_limit"] (defScope Lh.s_law_draw) := ⟨rfl, rfl, rfl, by decide +kernel, rfl, by decide +kernel, by decide +kernel⟩
theorem ok_draw (T : Facts K mg) : Def P w K mg base "_law_draw" 1 ["_law_source_here", "_law_limit"] [] spDraw := by
  obtain ⟨fd, F⟩ := T.fn 37
  refine ⟨⟨fd, [], go F sc_draw ?_ fun cdv A outer s H vs Q E hr h => ?_, F.bindsN fun _ _ _ _ _ _ us hl => match us, hl with | [_, _], _ => rfl, .nil⟩, T.glo 24, F.kp⟩
  · rintro vs H Q E ⟨a, n, l, rfl, _⟩
    rfl
  obtain ⟨a, n, l, rfl, ⟨i0, i1, i2, hs, h0, h1, hi1, h2⟩, hn, hl, hl2, k⟩ := h
  have nd := sc_draw.nd
  have hu := hu_of hr
  refine ⟨_, pss_cons (ps_if (pt_cmpR op_gt (pe_ix ix_list (pv 0) pe_int (fun _ _ => rfl)) pe_int (nomark _))
      (pss_cons (ps_set (i := 2) nd rfl (Or.inl rfl) (pe_op op_mod (pe_ix ix_list (pv 0) pe_int (fun _ _ => rfl)) (pv 1)))
        (pss_cons (ps_asg (pe_op op_fdivW (pe_ix ix_list (pv 0) pe_int (fun _ _ => rfl)) (pv 1)) (pg_sub (pv 0) pe_int set_list))
        (pss_one (ps_ret (pv 2))))) pss_nil)
    (pss_cons (ps_asg (pe_op op_add (pe_ix ix_list (pv 0) pe_int (fun _ _ => rfl)) pe_int) (pg_sub (pv 0) pe_int set_list))
    (pss_cons (ps_set (i := 3) nd rfl (Or.inl rfl) (pe_op op_mod (pe_op Kx.op_powW (pe_op op_add (pe_ix ix_list (pv 0) pe_int (fun _ _ => rfl)) (pe_op op_mul pe_int (pe_ix ix_list (pv 0) pe_int (fun _ _ => rfl)))) pe_int) (pe_op op_add (pe_op op_pow pe_int pe_int) pe_int)))
    (pss_cons (ps_set (i := 3) nd rfl (Or.inl rfl) (pe_op op_mod (pe_op Kx.op_powW (pe_op op_add (pv 3) (pe_op op_mul pe_int (pe_ix ix_list (pv 0) pe_int (fun _ _ => rfl)))) pe_int) (pe_op op_add (pe_op op_pow pe_int pe_int) pe_int)))
    (pss_one (ps_ret (pe_op op_mod (pe_op op_fdiv (pv 3) (pe_op op_pow pe_int pe_int)) (pv 1))))))), ?_⟩
  have ix : ∀ {σ : L2.St} {H' : Hp} {xs : List V} {j : Nat} {v : V} (h0 : σ[0]? = some (some (.ref a))) (h : H' a = some (.lst xs)) (hj : xs[j]? = some v), Ev (tOp (rIxL K) (tVar 0) (tC (.int (j : Int)))) σ H' v := fun h0 h hj => ev_op (ev_var h0) ev_c (rv_ixL (SqL.of h) (atI_nat hj))
  refine q_when (b := decide (0 < i0)) (et_test (ev_op (ix (j := 0) (v := .int i0) rfl hs rfl) ev_c rv_I0)) (fun hb H1 e1 => ?_) fun hb H1 e1 => ?_
  · refine q_asg (v := .int (i0 % l)) (ev_op (ix (j := 0) (v := .int i0) rfl (e1 _ _ hs) rfl) (ev_var (v := .int l) rfl) (rv_I (by omega))) fun H2 e2 => ?_
    refine q_setL (j := 0) (v := .int (i0 / l)) ((e1.trans e2) _ _ hs) (ev_op (ix (j := 0) (v := .int i0) rfl ((e1.trans e2) _ _ hs) rfl) (ev_var (v := .int l) rfl) (rv_I (wide_div (b := 200) (by omega) (by omega) (by decide) (by decide)))) (ev_var rfl) ev_c (by show 0 < 3; decide) fun H3 e3 => ?_
    refine s_ret (ev_var (v := .int (i0 % l)) rfl) fun H4 e4 => ?_
    exact k _ H4 (Int.emod_nonneg _ (by omega)) (Int.emod_lt_of_pos _ (by omega)) (Ch.trans (Ch.put (Ch.of ((e1.trans e2).trans e3)) (.head _)) (Ch.of e4)) ⟨i0 / l, i1, i2, e4 _ _ upd_same, Int.ediv_nonneg h0 (by omega), h1, hi1, by omega⟩
  · refine q_setL (j := 2) (v := .int (((i2 + 1 : Nat)) : Int)) (e1 _ _ hs) (ev_op (ix (j := 2) (v := .int (i2 : Int)) rfl (e1 _ _ hs) rfl) ev_c rv_I0) (ev_var rfl) ev_c (by show 2 < 3; decide) fun H2 e2 => ?_
    have hs2 : upd H2 a (.lst [.int i0, .int i1, .int (((i2 + 1 : Nat)) : Int)]) a = some (.lst [.int i0, .int i1, .int (((i2 + 1 : Nat)) : Int)]) := upd_same
    have c2 : Ch [a] H (upd H2 a (.lst [.int i0, .int i1, .int (((i2 + 1 : Nat)) : Int)])) := Ch.put (Ch.of (e1.trans e2)) (.head _)
    have hs2' : upd H2 a (.lst ([V.int i0, .int i1, .int (i2 : Int)].set 2 (.int (((i2 + 1 : Nat)) : Int)))) = upd H2 a (.lst [.int i0, .int i1, .int (((i2 + 1 : Nat)) : Int)]) := rfl
    rw [hs2']
    generalize upd H2 a (.lst [.int i0, .int i1, .int (((i2 + 1 : Nat)) : Int)]) = H3 at hs2 c2 ⊢
    have hi2 : (((i2 + 1 : Nat)) : Int) ≤ 1000001 := by omega
    have hi2' : (1 : Int) ≤ (((i2 + 1 : Nat)) : Int) := by omega
    generalize hc : (((i2 + 1 : Nat)) : Int) = c at hs2 c2 hi2 hi2' ⊢
    obtain ⟨m1, hm1⟩ : ∃ m1 : Int, m1 = (i1 + 67867979 * c) ^ (3 : Int).toNat % (10 ^ (39 : Int).toNat + 3) := ⟨_, rfl⟩
    have hm10 : 0 ≤ m1 := by rw [hm1]; exact Int.emod_nonneg _ (by decide)
    have hm11 : m1 < 10 ^ 39 + 3 := by rw [hm1]; exact Int.emod_lt_of_pos _ (by decide)
    have hb1 : (i1 + 67867979 * c).natAbs < 2 ^ 1000 := Nat.lt_trans (show (i1 + 67867979 * c).natAbs < 2 ^ 210 by omega) (Nat.pow_lt_pow_right (by decide) (by decide))
    refine q_asg (v := .int m1) (ev_to (ev_op (ev_op (ev_op (ix (j := 1) (v := .int i1) rfl hs2 rfl) (ev_op ev_c (ix (j := 2) (v := .int c) rfl hs2 rfl) (rv_I (.inl ⟨by decide, by decide⟩))) rv_I0) (ev_c (v := .int 3)) (rv_I ⟨by decide, by decide, hb1⟩)) (ev_op (ev_op (ev_c (v := .int 10)) (ev_c (v := .int 39)) (rv_I ⟨by decide, by decide, by decide⟩)) (ev_c (v := .int 3)) rv_I0) (rv_I (by decide))) (by rw [hm1])) fun H4 e4 => ?_
    obtain ⟨m2, hm2⟩ : ∃ m2 : Int, m2 = (m1 + 982451707 * c) ^ (2 : Int).toNat % (10 ^ (37 : Int).toNat + 43) := ⟨_, rfl⟩
    have hb2 : (m1 + 982451707 * c).natAbs < 2 ^ 1000 := Nat.lt_trans (show (m1 + 982451707 * c).natAbs < 2 ^ 210 by omega) (Nat.pow_lt_pow_right (by decide) (by decide))
    refine q_asg (v := .int m2) (ev_to (ev_op (ev_op (ev_op (ev_var (v := .int m1) rfl) (ev_op ev_c (ix (j := 2) (v := .int c) rfl (e4 _ _ hs2) rfl) (rv_I (.inl ⟨by decide, by decide⟩))) rv_I0) (ev_c (v := .int 2)) (rv_I ⟨by decide, by decide, hb2⟩)) (ev_op (ev_op (ev_c (v := .int 10)) (ev_c (v := .int 37)) (rv_I ⟨by decide, by decide, by decide⟩)) (ev_c (v := .int 43)) rv_I0) (rv_I (by decide))) (by rw [hm2])) fun H5 e5 => ?_
    refine s_ret (v := .int (m2 / 10 ^ 7 % l)) (ev_op (ev_op (ev_var (v := .int m2) rfl) (ev_op (ev_c (v := .int 10)) (ev_c (v := .int 7)) (rv_I (i := 10) (j := 7) ⟨by decide, by decide, by decide⟩)) (rv_I (j := 10 ^ (7 : Int).toNat) ⟨by decide, by decide⟩)) (ev_var (v := .int l) rfl) (rv_I (by omega))) fun H6 e6 => ?_
    exact k _ H6 (Int.emod_nonneg _ (by omega)) (Int.emod_lt_of_pos _ (by omega)) (Ch.trans c2 (Ch.of ((e4.trans e5).trans e6))) ⟨i0, i1, i2 + 1, ((e4.trans e5).trans e6) _ _ (hc ▸ hs2), h0, h1, hi1, by omega⟩
end
end Lp

/-! ## V15 -/
set_option Elab.async false
set_option linter.all false
set_option maxRecDepth 100000
set_option maxHeartbeats 4000000
/-! An order that the law draws. -/
namespace Lp
open PySem PySem.Spec PyProof.Rows L2 Evl
section
variable {P : Program} {w : World} {K : PySem.W.Frag} {mg : Str → Option Value} {base : Heap}
theorem if_yes {b : Bool} {p q : Prop} (hb : b = true) (h : p) : if b = true then p else q := by rw [if_pos hb]; exact h
theorem if_no {b : Bool} {p q : Prop} (hb : b = false) (h : q) : if b = true then p else q := by rw [hb, if_neg Bool.false_ne_true]; exact h
/-- a drawn number -/
theorem e_draw {σ : L2.St} {H : Hp} {Q : VK} {a : Addr} {n : Nat} {l : Int} {te : TE} (h0 : σ[0]? = some (some (.ref a))) (hs : Src H a n) (hn : n ≤ 1000000) (hl : 1 ≤ l) (hl2 : l < 2 ^ 200) (h : Ev te σ H (.int l))
    (k : ∀ v H', 0 ≤ v → v < l → Ch [a] H H' → Src H' a (n + 1) → Q (.int v) H') : tCall spDraw [] E0 (tCons (tVar 0) (tCons te tNil)) σ H Q := by
  refine call_in (cons_in ⟨.ref a, h0, cons_in ?_⟩)
  exact h H (Ex.refl _) _ fun H1 e1 => ⟨a, n, l, rfl, hs.ex e1, hn, hl, hl2, fun v H' h0 h1 hc hS => k v H' h0 h1 (Ch.trans (Ch.of e1) hc) hS⟩
theorem dp_ints {H : Hp} : ∀ ns : List Int, DpAll K H (ns.map V.int) (ns.map PyData.int)
  | [] => .nil
  | n :: r => .cons (.int n) (dp_ints r)
theorem eqv_ints (ns ms : List Int) : PyData.eqv (.list (ns.map PyData.int)) (.list (ms.map PyData.int)) = decide (ns = ms) := by
  rw [PyData.eqv, PySem.W.ked_eqvAll]
theorem rv_neInts {H : Hp} {p q : Addr} {ns ms : List Int} (h1 : SqL K H p (ns.map V.int)) (h2 : SqL K H q (ms.map V.int)) : RV (rNeD K) (.ref p) (.ref q) H (.bl (!decide (ns = ms))) := fun H1 e Q k =>
  ⟨.list (ns.map .int), .list (ms.map .int), .lst (ex_l e h1) (dp_ints ns), .lst (ex_l e h2) (dp_ints ms), PySem.W.shaped_ints ns, PySem.W.shaped_ints ms, by rw [eqv_ints]; exact k H1 (Ex.refl _)⟩
/-- l != [] -/
theorem et_neNil {σ : L2.St} {H : Hp} {ta : TE} {p : Addr} {ns : List Int} (ha : Ev ta σ H (.ref p)) (h : H p = some (.lst (ns.map V.int))) : EvT (tTest (tOp (rNeD K) ta (tLst tNil))) σ H (!decide (ns = [])) :=
  et_test (ev_opL (xs := []) ha (el_lst ea_nil (by decide)) fun q H1 h1 e1 => rv_neInts (ms := []) (SqL.of (e1 _ _ h)) (SqL.of h1))
theorem q_whenE {tc : TT} {tu tz : TS} {D : Ends} {σ : L2.St} {H : Hp} (h : tc σ H fun b H1 => if b = true then tu { D with nx := tz D } σ H1 else tz D σ H1) : tSeq (tIfS tc tu tNext) tz D σ H := h
theorem ev_min2 {σ : L2.St} {H : Hp} {ta tb : TE} {i j : Int} (ha : Ev ta σ H (.int i)) (hb : Ev tb σ H (.int j)) : Ev (tCB (fun xs H Q => ∃ i j, xs = [.int i, .int j] ∧ Q (.int (if j < i then j else i)) H) (tCons ta (tCons tb tNil))) σ H (.int (if j < i then j else i)) :=
  ev_cb (ea_cons ha (ea_cons hb ea_nil)) fun H1 e Q k => ⟨i, j, rfl, k H1 (Ex.refl _)⟩
/-- ids that rise -/
structure Inc (l : List Int) (last : Int) (i : Nat) : Prop where
  len : l.length = i
  up : l.Pairwise (· < ·)
  rg : ∀ x ∈ l, 1 ≤ x ∧ x ≤ last
  pos : 0 ≤ last
  big : last ≤ i * (33 * 10 ^ 27)
theorem Inc.snoc {l : List Int} {last d st : Int} {i : Nat} (h : Inc l last i) (h0 : 0 ≤ d) (h1 : d < st) (h2 : st ≤ 33 * 10 ^ 27) : Inc (l ++ [last + 1 + d]) (last + 1 + d) (i + 1) := by
  refine ⟨by rw [List.length_append, h.len]; rfl, ?_, fun x hx => ?_, by have := h.pos; omega, ?_⟩
  · refine List.pairwise_append.mpr ⟨h.up, List.pairwise_singleton _ _, fun x hx y hy => ?_⟩
    rw [List.mem_singleton.mp hy]
    have := (h.rg x hx).2
    omega
  · rcases List.mem_append.mp hx with hx | hx
    · obtain ⟨a, b⟩ := h.rg x hx
      exact ⟨a, by omega⟩
    · rw [List.mem_singleton.mp hx]
      have := h.pos
      exact ⟨by omega, by omega⟩
  · have := h.big
    have e : ((i + 1 : Nat) : Int) * (33 * 10 ^ 27) = (i : Int) * (33 * 10 ^ 27) + 33 * 10 ^ 27 := by
      rw [Int.natCast_add, Int.add_mul]
      simp
    rw [e]
    omega
/-- an order's list -/
structure Fine (l : List Int) : Prop where
  nd : l.Nodup
  rg : ∀ x ∈ l, 1 ≤ x ∧ x ≤ 10 ^ 30
theorem Inc.fine {l : List Int} {last : Int} {i : Nat} (h : Inc l last i) (hi : i ≤ 30) : Fine l := by
  refine ⟨List.nodup_iff_pairwise_ne.mpr (h.up.imp fun h => by omega), fun x hx => ?_⟩
  obtain ⟨a, b⟩ := h.rg x hx
  have := h.big
  have : (i : Int) * (33 * 10 ^ 27) ≤ 30 * (33 * 10 ^ 27) := Int.mul_le_mul_of_nonneg_right (by omega) (by decide)
  exact ⟨a, by omega⟩
theorem Inc.fineSet {l : List Int} {last : Int} {i : Nat} (h : Inc l last (i + 1)) (hi : i + 1 ≤ 30) : Fine (l.set i (10 ^ 30)) := by
  have hb : last < 10 ^ 30 := by
    have := h.big
    have : ((i + 1 : Nat) : Int) * (33 * 10 ^ 27) ≤ 30 * (33 * 10 ^ 27) := Int.mul_le_mul_of_nonneg_right (by omega) (by decide)
    omega
  have hl := h.len
  have e : l.set i (10 ^ 30) = l.take i ++ [10 ^ 30] := by
    rw [List.set_eq_take_append_cons_drop, if_pos (by omega), List.drop_of_length_le (by omega)]
  rw [e]
  refine ⟨List.nodup_append.mpr ⟨(List.nodup_iff_pairwise_ne.mpr (h.up.imp fun h => by omega)).sublist (List.take_sublist _ _), by simp, fun x hx y hy => ?_⟩, fun x hx => ?_⟩
  · rw [List.mem_singleton.mp hy]
    have := (h.rg x (List.mem_of_mem_take hx)).2
    omega
  · rcases List.mem_append.mp hx with hx | hx
    · obtain ⟨a, b⟩ := h.rg x (List.mem_of_mem_take hx)
      exact ⟨a, by omega⟩
    · rw [List.mem_singleton.mp hx]
      exact ⟨by decide, Int.le_refl _⟩
theorem Fine.perm {l l' : List Int} (h : Fine l) (p : l'.Perm l) : Fine l' := ⟨(p.nodup_iff).mpr h.nd, fun x hx => h.rg x (p.mem_iff.mp hx)⟩
theorem map_erase : ∀ (L : List Int) (k : Nat), (L.map V.int).eraseIdx k = (L.eraseIdx k).map V.int
  | [], _ => rfl
  | _ :: _, 0 => rfl
  | x :: r, k + 1 => by
    show V.int x :: (r.map V.int).eraseIdx k = V.int x :: (r.eraseIdx k).map V.int
    rw [map_erase r k]
theorem erase_perm : ∀ (L : List Int) (k : Nat) (h : k < L.length), (L[k] :: L.eraseIdx k).Perm L
  | _ :: _, 0, _ => .refl _
  | x :: r, k + 1, h => (List.Perm.swap x _ _).trans ((erase_perm r k (by simpa using h)).cons x)
theorem pop_perm {F L : List Int} {k : Nat} (h : k < L.length) : ((F ++ [L[k]]) ++ L.eraseIdx k).Perm (F ++ L) := by
  rw [List.append_assoc]
  exact (erase_perm L k h).append_left F
theorem Fine.isOrd {l : List Int} (h : Fine l) (hl : l.length ≤ 30) : Lm.IsOrd l := ⟨hl, h.nd, fun x hx => (h.rg x hx).1, fun x hx => (h.rg x hx).2⟩
def spOrder : Sp := fun vs H Q _ => ∃ (a : Addr) (n m : Nat), vs = [.ref a, .int (m : Int)] ∧ Src H a n ∧ n ≤ 10000 ∧ m ≤ 30 ∧ ∀ p o H', H p = none → Ch [a] H H' → Src H' a (n + 100) → H' p = some (.lst (o.map V.int)) → Lm.IsOrd o → o.length ≤ m → Q (.ref p) H'
def nmOrder : List Str := ["_law_source_here", "_law_most", "_law_size", "_law_style", "_law_left", "_law_last", "_law_step", "_law_turn", "_law_found"]
theorem sc_order : FnScope nmOrder ["_law_source_here", "_law_most"] (defScope Lh.s_law_order) := ⟨rfl, rfl, rfl, by decide +kernel, rfl, by decide +kernel, by decide +kernel⟩
theorem ok_order (T : Facts K mg) : Def P w K mg base "_law_order" 2 ["_law_source_here", "_law_most"] [] spOrder := by
  obtain ⟨fd, F⟩ := T.fn 38
  refine ⟨⟨fd, [], go F sc_order ?_ fun cdv A outer s H vs Q E hr h => ?_, F.bindsN fun _ _ _ _ _ _ us hl => match us, hl with | [_, _], _ => rfl, .nil⟩, T.glo 25, F.kp⟩
  · rintro vs H Q E ⟨a, n, m, rfl, _⟩
    rfl
  obtain ⟨a, n, m, rfl, hS, hn, hm, k⟩ := h
  have nd := sc_order.nd
  have hu := hu_of hr
  refine ⟨_, pss_cons (ps_asg (pe_tup (pa_cons (pe_def (ok_draw T) hr (pa_cons (pv 0) (pa_cons (pe_op op_add (pv 1) pe_int) pa_nil))) (pa_cons (pe_def (ok_draw T) hr (pa_cons (pv 0) (pa_cons pe_int pa_nil))) (pa_cons (pe_lst pa_nil) (pa_cons pe_int pa_nil)))))
      (pg_tup rfl (pgs_cons (pg_name (i := 2) nd rfl (Or.inl rfl)) (pgs_cons (pg_name (i := 3) nd rfl (Or.inl rfl)) (pgs_cons (pg_name (i := 4) nd rfl (Or.inl rfl)) (pgs_cons (pg_name (i := 5) nd rfl (Or.inl rfl)) pgs_nil))))))
    (pss_cons (ps_set (i := 6) nd rfl (Or.inl rfl) (pe_ix ix_list (pe_lst (pa_cons pe_int (pa_cons pe_int (pa_cons (pe_op op_mul pe_int (pe_op op_pow pe_int pe_int)) pa_nil)))) (pe_def (ok_draw T) hr (pa_cons (pv 0) (pa_cons pe_int pa_nil))) (fun _ _ => rfl)))
    (pss_cons (ps_for PassesOwn.never rfl (pi_range1 rfl T.n_range (pa_cons (pv 2) pa_nil)) (pg_name (i := 7) nd rfl (Or.inl rfl))
      (pss_cons (ps_set (i := 5) nd rfl (Or.inl rfl) (pe_op op_add (pe_op op_add (pv 5) pe_int) (pe_def (ok_draw T) hr (pa_cons (pv 0) (pa_cons (pv 6) pa_nil)))))
        (pss_one (ps_expr (pe_bm PySem.F.plainAttrs_list PySem.F.slot_list_append PySem.F.type_list_append mt_append (pv 4) (pa_cons (pv 5) pa_nil))))))
    (pss_cons (ps_if (PW.pt (pw_and (pt_cmpR (op_neD hr.units) (pv 4) (pe_lst pa_nil) (nomark _)) (pw_and1 (pt_cmpR op_eq (pe_def (ok_draw T) hr (pa_cons (pv 0) (pa_cons pe_int pa_nil))) pe_int (nomark _)))))
      (pss_one (ps_asg (pe_op op_pow pe_int pe_int) (pg_sub (pv 4) (pe_un un_neg pe_int) set_list))) pss_nil)
    (pss_cons (ps_set (i := 8) nd rfl (Or.inl rfl) (pe_lst pa_nil))
    (pss_cons (ps_while PassesOwn.never (pt_cmpR (op_neD hr.units) (pv 4) (pe_lst pa_nil) (nomark _))
      (pss_one (ps_expr (pe_bm PySem.F.plainAttrs_list PySem.F.slot_list_append PySem.F.type_list_append mt_append (pv 8) (pa_cons (pe_bm PySem.F.plainAttrs_list PySem.F.slot_list_pop PySem.F.type_list_pop mt_popAt (pv 4) (pa_cons (pe_def (ok_draw T) hr (pa_cons (pv 0)
        (pa_cons (pe_callB (call_min2 rfl) rfl T.n_min boot_min (pa_cons (pe_ix ix_list (pe_lst (pa_cons pe_int (pa_cons pe_int (pa_cons pe_int (pa_cons pe_int pa_nil))))) (pv 3) (fun _ _ => rfl)) (pa_cons (pe_callB call_len_seq rfl T.n_len boot_len (pa_cons (pv 4) pa_nil)) pa_nil))) pa_nil))) pa_nil)) pa_nil)))))
    (pss_one (ps_ret (pv 8)))))))), ?_⟩
  have hSa : ∃ o, H a = some o := by
    obtain ⟨i0, i1, i2, h1, _⟩ := hS
    exact ⟨_, h1⟩
  obtain ⟨oa, hoa⟩ := hSa
  -- size, style, left, last
  refine q_tupAsg (cons_in (e_draw rfl hS (by omega) (by omega) (by omega) (ev_op (ev_var (v := .int (m : Int)) rfl) ev_c rv_I0) fun v0 H1 a0 b0 c1 S1 => cons_in (e_draw (l := 4) rfl S1 (by omega) (by decide) (by decide) ev_c fun v1 H2 a1 b1 c2 S2 => cons_in ⟨Nat.zero_le _, fun pL hL => ?_⟩)))
  have c12 := c1.trans c2
  have hLa : pL ≠ a := fun e => by
    obtain ⟨i0, i1, i2, h1, _⟩ := S2
    rw [e, h1] at hL
    cases hL
  have hL0 : H pL = none := by
    cases e : H pL with
    | none => rfl
    | some o => rw [c12 _ _ e (by simpa using hLa)] at hL; cases hL
  refine ⟨by show 4 ≤ sizeLine; decide, fun Tt hT => ⟨Tt, _, rfl, SqT.of upd_same, rfl, _, _, rfl, _, _, rfl, _, _, rfl, _, _, rfl, rfl, ?_⟩⟩
  have hTL : Tt ≠ pL := fun e => by rw [e, upd_same] at hT; cases hT
  have hL2 : upd (upd H2 pL (.lst [])) Tt (.tup [.int v0, .int v1, .ref pL, .int 0]) pL = some (.lst []) := by rw [upd_ne hTL.symm, upd_same]
  have e2 : Ex H2 (upd (upd H2 pL (.lst [])) Tt (.tup [.int v0, .int v1, .ref pL, .int 0])) := (Ex.new hL).trans (Ex.new hT)
  have c3 : Ch [a] H (upd (upd H2 pL (.lst [])) Tt (.tup [.int v0, .int v1, .ref pL, .int 0])) := c12.trans (Ch.of e2)
  have S3 := S2.ex e2
  -- step
  refine q_asgE ?_
  refine (el_lst (ea_cons ev_c (ea_cons ev_c (ea_cons (ev_op (ev_c (v := .int 33)) (ev_op (ev_c (v := .int 10)) (ev_c (v := .int 27)) (rv_I (i := 10) (j := 27) ⟨by decide, by decide, by decide⟩)) (rv_I (.inl ⟨by decide, by decide⟩))) ea_nil))) (by show 3 ≤ 100000; decide) : EvL _ [some (.ref a), some (.int (m : Int)), some (.int v0), some (.int v1), some (.ref pL), some (.int 0), none, none, none] _ [.int 1, .int 3, .int (33 * 10 ^ (27 : Int).toNat)]) _ (Ex.refl _) _ fun q H4 hq e4 h4 => ?_
  refine e_draw (l := 3) rfl (S3.ex e4) (by omega) (by decide) (by decide) ev_c fun v2 H5 a2 b2 c5 S5 => ?_
  have hqa : q ≠ a := fun e => by
    obtain ⟨i0, i1, i2, h1, _⟩ := S3
    rw [e, h1] at hq
    cases hq
  obtain ⟨st, hst, hst1, hst2⟩ : ∃ st : Int, atI [V.int 1, .int 3, .int (33 * 10 ^ (27 : Int).toNat)] v2 = some (.int st) ∧ 1 ≤ st ∧ st ≤ 33 * 10 ^ 27 := by
    have h : v2 = 0 ∨ v2 = 1 ∨ v2 = 2 := by omega
    rcases h with rfl | rfl | rfl
    · exact ⟨1, rfl, by decide, by decide⟩
    · exact ⟨3, rfl, by decide, by decide⟩
    · exact ⟨33 * 10 ^ (27 : Int).toNat, rfl, by decide, by decide⟩
  refine ⟨q, _, v2, .int st, rfl, rfl, SqL.of (c5 _ _ h4 (by simpa using hqa)), hst, ?_⟩
  have c35 : Ch [a] H H5 := (c3.trans (Ch.of e4)).trans c5
  have hL5 : H5 pL = some (.lst []) := c5 _ _ (e4 _ _ hL2) (by simpa using hLa)
  -- the ids, rising
  refine q_forR1 (n := v0) (ea_cons (ev_var (v := .int v0) rfl) ea_nil) ⟨a0, by omega⟩ (fun i σ' H' => ∃ l last v7, Ch [a] H H' ∧ Src H' a (n + 3 + i) ∧ H' pL = some (.lst (l.map V.int)) ∧ Inc l last i ∧ σ' = [some (.ref a), some (.int (m : Int)), some (.int v0), some (.int v1), some (.ref pL), some (.int last), some (.int st), v7, none]) ?_ ?_ ?_
  · intro H6 e6
    exact ⟨[], 0, none, c35.trans (Ch.of e6), (S5.ex e6).le (by omega), e6 _ _ hL5, ⟨rfl, .nil, fun x hx => absurd hx List.not_mem_nil, by decide, by decide⟩, rfl⟩
  · rintro i σ' H' hi ⟨l, last, v7, cc, SS, hl, hI, rfl⟩
    refine q_asgE ?_
    refine (ev_op (ev_var (v := .int last) (i := 5) rfl) ev_c rv_I0 : Ev _ [some (.ref a), some (.int (m : Int)), some (.int v0), some (.int v1), some (.ref pL), some (.int last), some (.int st), some (.int (i : Int)), none] H' (.int (last + 1))) H' (Ex.refl _) _ fun H7 e7 => ?_
    refine e_draw rfl (SS.ex e7) (by omega) hst1 (by omega) (ev_var (v := .int st) rfl) fun d H8 a8 b8 c8 S8 => ⟨_, _, rfl, rfl, ?_⟩
    have hl8 : H8 pL = some (.lst (l.map V.int)) := c8 _ _ (e7 _ _ hl) (by simpa using hLa)
    have hlen := hI.len
    refine s_app (l := pL) hl8 (ev_var (v := .ref pL) rfl) (ev_var (v := .int (last + 1 + d)) rfl) (by rw [List.length_map]; omega) fun H9 e9 => ?_
    refine ⟨l ++ [last + 1 + d], last + 1 + d, _, Ch.new ((cc.trans (Ch.of e7)).trans (c8.trans (Ch.of e9))) hL0, ?_, by rw [upd_same, List.map_append]; rfl, hI.snoc a8 b8 hst2, rfl⟩
    obtain ⟨i0, i1, i2, g1, g2, g3, g4, g5⟩ := S8.ex e9
    exact ⟨i0, i1, i2, by rw [upd_ne hLa.symm]; exact g1, g2, g3, g4, by omega⟩
  rintro σ' H6 ⟨l, last, v7, c6, S6, hl6, hI, rfl⟩
  have hil : l.length = v0.toNat := hI.len
  have hv0 : v0.toNat ≤ m := by omega
  -- the greatest
  have rest : ∀ (L : List Int) (H7 : Hp), Fine L → L.length = v0.toNat → Ch [a] H H7 → Src H7 a (n + 4 + v0.toNat) → H7 pL = some (.lst (L.map V.int)) →
      tSeq (tAsg (tLst tNil) (gName 8)) (tSeq (tWhile (tTest (tOp (rNeD K) (tVar 4) (tLst tNil))) (tDrop (tBM K "list" rAppend (tVar 8) (tCons (tBM K "list" rPopAt (tVar 4) (tCons (tCall spDraw [] E0 (tCons (tVar 0) (tCons (tCB (fun xs H Q => ∃ i j, xs = [.int i, .int j] ∧ Q (.int (if j < i then j else i)) H)
        (tCons (tOp (rIxL K) (tLst (tCons (tC (.int 1)) (tCons (tC (.int 2)) (tCons (tC (.int 4)) (tCons (tC (.int 30)) tNil))))) (tVar 3)) (tCons (tCB (fun xs H Q => ∃ p ys, xs = [.ref p] ∧ (SqL K H p ys ∨ SqT K H p ys) ∧ Q (.int ys.length) H) (tCons (tVar 4) tNil)) tNil))) tNil))) tNil)) tNil)))) (tRet (tVar 8)))
        { nx := fun _ H' => Q .non H', rt := Q } [some (.ref a), some (.int (m : Int)), some (.int v0), some (.int v1), some (.ref pL), some (.int last), some (.int st), v7, none] H7 := by
    intro L H7 hF hLl c7 S7 h7
    refine q_asgL (xs := []) (el_lst ea_nil (by decide)) fun pF H8 hF8 e8 h8 => ?_
    have hFL : pF ≠ pL := fun e => by rw [e, h7] at hF8; cases hF8
    have hFa : pF ≠ a := fun e => by
      obtain ⟨i0, i1, i2, h1, _⟩ := S7
      rw [e, h1] at hF8
      cases hF8
    have hF0 : H pF = none := by
      cases e : H pF with
      | none => rfl
      | some o => rw [c7 _ _ e (by simpa using hFa)] at hF8; cases hF8
    refine q_while (fun k σ' H' => ∃ L' F', k = L'.length ∧ Ch [a] H H' ∧ Src H' a (n + 4 + v0.toNat + F'.length) ∧ H' pL = some (.lst (L'.map V.int)) ∧ H' pF = some (.lst (F'.map V.int)) ∧ Fine (F' ++ L') ∧ F'.length + L'.length = v0.toNat ∧ σ' = [some (.ref a), some (.int (m : Int)), some (.int v0), some (.int v1), some (.ref pL), some (.int last), some (.int st), v7, some (.ref pF)]) L.length
      ⟨L, [], rfl, c7.trans (Ch.of e8), S7.ex e8, e8 _ _ h7, h8, hF, by show 0 + L.length = _; omega, rfl⟩ ?_
    rintro k σ' H' ⟨L', F', rfl, cc, SS, hL', hF', hFi, hlen, rfl⟩
    refine ⟨_, et_neNil (ev_var (v := .ref pL) rfl) hL', fun hb H9 e9 => ?_, fun hb H9 e9 => ?_⟩
    · have hne : L' ≠ [] := by
        intro e
        rw [e] at hb
        cases hb
      have hpos : 0 < L'.length := List.length_pos_iff.mpr hne
      refine ⟨fun σ2 H2 => ∃ L2 F2, L2.length < L'.length ∧ Ch [a] H H2 ∧ Src H2 a (n + 4 + v0.toNat + F2.length) ∧ H2 pL = some (.lst (L2.map V.int)) ∧ H2 pF = some (.lst (F2.map V.int)) ∧ Fine (F2 ++ L2) ∧ F2.length + L2.length = v0.toNat ∧ σ2 = [some (.ref a), some (.int (m : Int)), some (.int v0), some (.int v1), some (.ref pL), some (.int last), some (.int st), v7, some (.ref pF)],
        fun σ2 H2 ⟨L2, F2, q1, q2⟩ => ⟨L2.length, q1, L2, F2, rfl, q2⟩, ?_⟩
      have hF9 := e9 _ _ hF'
      have hL9 := e9 _ _ hL'
      refine ⟨.ref pF, rfl, Or.inl ⟨rfl, _, SqL.of hF9⟩, ?_⟩
      refine cons_in ?_
      refine ⟨.ref pL, rfl, Or.inl ⟨rfl, _, SqL.of hL9⟩, ?_⟩
      refine cons_in ?_
      obtain ⟨c0, hc0, hc1⟩ : ∃ c0 : Int, atI [V.int 1, .int 2, .int 4, .int 30] v1 = some (.int c0) ∧ 1 ≤ c0 := by
        have h : v1 = 0 ∨ v1 = 1 ∨ v1 = 2 ∨ v1 = 3 := by omega
        rcases h with rfl | rfl | rfl | rfl
        · exact ⟨1, rfl, by decide⟩
        · exact ⟨2, rfl, by decide⟩
        · exact ⟨4, rfl, by decide⟩
        · exact ⟨30, rfl, by decide⟩
      refine e_draw rfl (SS.ex e9) (by omega) (l := if ((L'.map V.int).length : Int) < c0 then ((L'.map V.int).length : Int) else c0) (by rw [List.length_map]; split <;> omega) (by rw [List.length_map]; split <;> omega)
        (ev_min2 (ev_opL1 (xs := [.int 1, .int 2, .int 4, .int 30]) (el_lst (ea_cons ev_c (ea_cons ev_c (ea_cons ev_c (ea_cons ev_c ea_nil)))) (by show 4 ≤ 100000; decide)) (fun H1 e1 => ev_var (v := .int v1) rfl) fun q H1 h1 e1 => rv_ixL (SqL.of h1) hc0) (ev_len' (ev_var (v := .ref pL) rfl) (SqL.of hL9))) fun d H10 a10 b10 c10 S10 => ?_
      rw [List.length_map] at b10
      have hdl : d < (L'.length : Int) := by split at b10 <;> omega
      have hL10 := c10 _ _ hL9 (by simpa using hLa)
      have hF10 := c10 _ _ hF9 (by simpa using hFa)
      have hdn : d.toNat < L'.length := by omega
      refine ⟨pL, L'.map V.int, d, d.toNat, .int L'[d.toNat], rfl, rfl, hL10, by omega, by omega, PyProof.Rows.seqIndex_at a10 (by rw [List.length_map]; exact hdl), by rw [List.getElem?_map, List.getElem?_eq_getElem hdn]; rfl, ?_⟩
      refine ⟨pF, F'.map V.int, .int L'[d.toNat], rfl, rfl, by rw [upd_ne hFL]; exact hF10, sz_lt (by rw [List.length_map]; omega), ?_⟩
      refine ⟨L'.eraseIdx d.toNat, F' ++ [L'[d.toNat]], ?_, Ch.new (Ch.new ((cc.trans (Ch.of e9)).trans c10) hL0) hF0, ?_, ?_, by rw [upd_same, List.map_append]; rfl, hFi.perm (pop_perm hdn), ?_, rfl⟩
      · rw [List.length_eraseIdx_of_lt hdn]
        omega
      · obtain ⟨i0, i1, i2, g1, g2, g3, g4, g5⟩ := S10
        exact ⟨i0, i1, i2, by rw [upd_ne hFa.symm, upd_ne hLa.symm]; exact g1, g2, g3, g4, by rw [List.length_append]; exact Nat.le_trans g5 (by show _ ≤ n + 4 + v0.toNat + (F'.length + 1); omega)⟩
      · rw [upd_ne hFL.symm, upd_same, map_erase]
      · rw [List.length_eraseIdx_of_lt hdn, List.length_append]
        show F'.length + 1 + (L'.length - 1) = _
        omega
    · have hnil : L' = [] := by
        have := hb
        simpa using this
      subst hnil
      refine s_ret (ev_var (v := .ref pF) rfl) fun H10 e10 => ?_
      rw [List.append_nil] at hFi
      have hfl : F'.length = v0.toNat := by simpa using hlen
      exact k pF F' H10 hF0 ((cc.trans (Ch.of e9)).trans (Ch.of e10)) (((SS.ex e9).ex e10).le (by omega)) (e10 _ _ (e9 _ _ hF')) (hFi.isOrd (by omega)) (by omega)
  refine q_whenE ?_
  refine et_neNil (ev_var (v := .ref pL) rfl) hl6 H6 (Ex.refl _) _ fun H7 e7 => ?_
  by_cases hnil : l = []
  · rw [decide_eq_true hnil]
    exact rest l H7 (hI.fine (by omega)) hil (c6.trans (Ch.of e7)) ((S6.ex e7).le (by omega)) (e7 _ _ hl6)
  · rw [decide_eq_false hnil]
    rw [if_pos (show (!false) = true from rfl)]
    refine e_draw (l := 4) rfl (S6.ex e7) (by omega) (by decide) (by decide) ev_c fun d H8 a8 b8 c8 S8 => ?_
    have hl8 := c8 _ _ (e7 _ _ hl6) (by simpa using hLa)
    refine ⟨rfl, _, rfl, ?_⟩
    have hlen := hI.len
    by_cases hd : d = 0
    · subst hd
      refine if_yes (show decide (V.int 0 = V.int 0) = true by decide) ?_
      refine (ev_op (ev_c (v := .int 10)) (ev_c (v := .int 30)) (rv_I (i := 10) (j := 30) ⟨by decide, by decide, by decide⟩) : Ev _ [some (.ref a), some (.int (m : Int)), some (.int v0), some (.int v1), some (.ref pL), some (.int last), some (.int st), v7, none] H8 (.int (10 ^ (30 : Int).toNat))) H8 (Ex.refl _) _ fun H9 e9 => ?_
      have hp : 0 < l.length := List.length_pos_iff.mpr hnil
      obtain ⟨j, hj⟩ : ∃ j, v0.toNat = j + 1 := ⟨v0.toNat - 1, by omega⟩
      rw [hj] at hI
      refine ⟨.ref pL, rfl, 1, rfl, pL, l.map V.int, -1, j, rfl, rfl, e9 _ _ hl8, ?_, ?_⟩
      · rw [List.length_map]
        unfold ixN
        rw [hlen, hj]
        simp
        omega
      · refine rest (l.set j (10 ^ 30)) _ (hI.fineSet (by omega)) (by rw [List.length_set]; exact hil) (Ch.new (((c6.trans (Ch.of e7)).trans c8).trans (Ch.of e9)) hL0) ?_ ?_
        · obtain ⟨i0, i1, i2, g1, g2, g3, g4, g5⟩ := S8.ex e9
          exact ⟨i0, i1, i2, by rw [upd_ne hLa.symm]; exact g1, g2, g3, g4, by omega⟩
        · rw [upd_same, List.map_set]
          rfl
    · refine if_no (decide_eq_false fun h => hd (by injection h)) ?_
      exact rest l H8 (hI.fine (by omega)) hil ((c6.trans (Ch.of e7)).trans c8) (S8.le (by omega)) hl8
end
end Lp

/-! ## V16 -/
set_option Elab.async false
set_option linter.all false
set_option maxRecDepth 100000
set_option maxHeartbeats 4000000
/-! Polls that the law draws. -/
namespace Lp
open PySem PySem.Spec PyProof.Rows L2 Evl
theorem call_lenK {X : Cx} {K : PySem.W.Frag} (hK : X.K = K := by rfl) : CallR X (.builtin "len") (fun xs H Q => ∃ p ys, xs = [.ref p] ∧ (SqL K H p ys ∨ SqT K H p ys) ∧ Q (.int ys.length) H) := hK ▸ call_len_seq
section
variable {P : Program} {w : World} {K : PySem.W.Frag} {mg : Str → Option Value} {base : Heap}
def spPolls : Sp := fun vs H Q _ => ∃ (a b : Addr) (n : Nat) (o : List Int), vs = [.ref a, .ref b] ∧ Src H a n ∧ n ≤ 10000 ∧ H b = some (.lst (o.map V.int)) ∧ o.length ≤ 30 ∧ b ≠ a ∧ ∀ p ps H', H p = none → Ch [a] H H' → Src H' a (n + 100) → H' p = some (.lst (nums ps)) → Lm.IsPolls o ps → Q (.ref p) H'
theorem polls_of {o vs : List Int} (hl : vs.length ≤ 30) (h : ∀ v ∈ vs, 0 ≤ v ∧ v ≤ (o.length : Int)) : ∃ ps, nums ps = (Lm.srt vs).map V.int ∧ Lm.IsPolls o ps := by
  refine ⟨(Lm.srt vs).map Int.toNat, ?_, by rw [List.length_map, Lm.srt_len]; exact hl, ?_, fun p hp => ?_⟩
  · unfold nums
    rw [List.map_map]
    refine List.map_congr_left fun x hx => ?_
    have := (h x (Lm.mem_srt.mp hx)).1
    show V.int (x.toNat : Int) = V.int x
    rw [Int.toNat_of_nonneg this]
  · rw [List.pairwise_map]
    exact (Lm.srt_pw vs).imp fun h => Int.toNat_le_toNat h
  · obtain ⟨x, hx, rfl⟩ := List.mem_map.mp hp
    have := h x (Lm.mem_srt.mp hx)
    omega
def nmPolls : List Str := ["_law_source_here", "_law_order_here", "_law_many", "_law_found", "_law_turn"]
theorem sc_polls : FnScope nmPolls ["_law_source_here", "_law_order_here"] (defScope Lh.s_law_polls) := ⟨rfl, rfl, rfl, by decide +kernel, rfl, by decide +kernel, by decide +kernel⟩
theorem ok_polls (T : Facts K mg) : Def P w K mg base "_law_polls" 2 ["_law_source_here", "_law_order_here"] [] spPolls := by
  obtain ⟨fd, F⟩ := T.fn 39
  refine ⟨⟨fd, [], go F sc_polls ?_ fun cdv A outer s H vs Q E hr h => ?_, F.bindsN fun _ _ _ _ _ _ us hl => match us, hl with | [_, _], _ => rfl, .nil⟩, T.glo 26, F.kp⟩
  · rintro vs H Q E ⟨a, b, n, o, rfl, _⟩
    rfl
  obtain ⟨a, b, n, o, rfl, hS, hn, hb, hol, hba, k⟩ := h
  have nd := sc_polls.nd
  have hu := hu_of hr
  refine ⟨_, pss_cons (ps_set (i := 2) nd rfl (Or.inl rfl) (pe_def (ok_draw T) hr (pa_cons (pv 0) (pa_cons (pe_ix ix_list (pe_lst (pa_cons pe_int (pa_cons pe_int (pa_cons pe_int pa_nil)))) (pe_def (ok_draw T) hr (pa_cons (pv 0) (pa_cons pe_int pa_nil))) (fun _ _ => rfl)) pa_nil))))
    (pss_cons (ps_setLc (i := 3) (own := [("_law_turn", 4)]) (g := gName 4) (tt := tYes) rfl nd rfl rfl (sw_true rfl rfl rfl rfl) (pi_range1 rfl T.n_range (pa_cons (pv 2) pa_nil)) (blkOk_by (own := [("_law_turn", 4)]) (N := nmPolls) (sc := defScope Lh.s_law_polls) (by decide +kernel))
      (fun _ _ _ _ _ => pg_name (i := 4) nd rfl (Or.inl rfl)) (fun _ _ _ _ _ => pts_nil) (fun _ _ _ _ _ => pe_def (ok_draw T) hr (pa_cons (pv 0) (pa_cons (pe_op op_add (pe_callB (call_lenK (K := K)) rfl T.n_len boot_len (pa_cons (pv 1) pa_nil)) pe_int) pa_nil))))
    (pss_cons (ps_if (PW.pt (pw_and (pt_cmpR op_gt (pv 2) pe_int (nomark _)) (pw_and1 (pt_cmpR op_eq (pe_def (ok_draw T) hr (pa_cons (pv 0) (pa_cons pe_int pa_nil))) pe_int (nomark _)))))
      (pss_one (ps_asg (pe_callB (call_lenK (K := K)) rfl T.n_len boot_len (pa_cons (pv 1) pa_nil)) (pg_sub (pv 3) pe_int set_list))) pss_nil)
    (pss_one (ps_ret (pe_callB cr_sortedI rfl T.n_sorted boot_sorted (pa_cons (pv 3) pa_nil)))))), ?_⟩
  -- many
  refine q_asgE ?_
  refine call_in (cons_in ⟨.ref a, rfl, cons_in ?_⟩)
  refine (el_lst (ea_cons ev_c (ea_cons ev_c (ea_cons ev_c ea_nil))) (by show 3 ≤ 100000; decide) : EvL _ [some (.ref a), some (.ref b), none, none, none] H [.int 4, .int 10, .int 31]) H (Ex.refl _) _ fun q H1 hq e1 h1 => ?_
  refine e_draw (l := 3) rfl (hS.ex e1) (by omega) (by decide) (by decide) ev_c fun v0 H2 a0 b0 c2 S2 => ?_
  have hSome : ∃ oa, H a = some oa := by
    obtain ⟨i0, i1, i2, h1, _⟩ := hS
    exact ⟨_, h1⟩
  obtain ⟨oa, hoa⟩ := hSome
  have hqa : q ≠ a := fun e => by rw [e, hoa] at hq; cases hq
  obtain ⟨lim, hlim, hl1, hl2⟩ : ∃ lim : Int, atI [V.int 4, .int 10, .int 31] v0 = some (.int lim) ∧ 1 ≤ lim ∧ lim ≤ 31 := by
    have h : v0 = 0 ∨ v0 = 1 ∨ v0 = 2 := by omega
    rcases h with rfl | rfl | rfl
    · exact ⟨4, rfl, by decide, by decide⟩
    · exact ⟨10, rfl, by decide, by decide⟩
    · exact ⟨31, rfl, by decide, by decide⟩
  refine ⟨q, _, v0, .int lim, rfl, rfl, SqL.of (c2 _ _ h1 (by simpa using hqa)), hlim, ?_⟩
  refine ⟨a, n + 1, lim, rfl, S2, by omega, hl1, by omega, fun many H3 am bm c3 S3 => ?_⟩
  have c03 : Ch [a] H H3 := ((Ch.of e1).trans c2).trans c3
  -- the moments
  refine q_asgE ?_
  refine ⟨.int many, rfl, many, rfl, by omega, by omega, fun D hD => ?_⟩
  have hDa : D ≠ a := fun e => by
    obtain ⟨i0, i1, i2, h1, _⟩ := S3
    rw [e, h1] at hD
    cases hD
  have hD0 : H D = none := by
    cases e : H D with
    | none => rfl
    | some o => rw [c03 _ _ e (by simpa using hDa)] at hD; cases hD
  refine lc_range (lo := 0) (n := many.toNat) (fun i H' => ∃ vs : List Int, Ch [a] H H' ∧ Src H' a (n + 2 + i) ∧ H' D = some (.lst (vs.map V.int)) ∧ vs.length = i ∧ ∀ v ∈ vs, 0 ≤ v ∧ v ≤ (o.length : Int)) ?_ ?_ ?_
  · exact ⟨[], Ch.new c03 hD0, S3.ex (Ex.new hD), upd_same, rfl, fun v hv => absurd hv List.not_mem_nil⟩
  · rintro i H' hi ⟨vs, cc, SS, hv, hvl, hvr⟩
    refine ⟨rfl, ?_⟩
    simp only [tYes, if_true]
    refine e_draw rfl SS (by omega) (l := (o.length : Int) + 1) (by omega) (by omega) ?_ fun d H4 a4 b4 c4 S4 => ?_
    · have hb' : H' b = some (.lst (o.map V.int)) := cc _ _ hb (by simpa using hba)
      refine ev_to (ev_op (ev_len' (ev_var (v := .ref b) (i := 1) rfl) (SqL.of hb')) ev_c rv_I0) ?_
      rw [List.length_map]
    · have hv4 := c4 _ _ hv (by simpa using hDa)
      refine ⟨_, hv4, sz_lt (by rw [List.length_map]; omega), vs ++ [d], Ch.new (cc.trans c4) hD0, ?_, by rw [upd_same, List.map_append]; rfl, by rw [List.length_append, hvl]; rfl, fun v hv => ?_⟩
      · obtain ⟨i0, i1, i2, g1, g2, g3, g4, g5⟩ := S4
        exact ⟨i0, i1, i2, by rw [upd_ne hDa.symm]; exact g1, g2, g3, g4, by omega⟩
      · rcases List.mem_append.mp hv with hv | hv
        · exact hvr v hv
        · rw [List.mem_singleton.mp hv]
          exact ⟨a4, by omega⟩
  rintro H4 ⟨vs, c4, S4, hv4, hvl, hvr⟩
  have fin : ∀ (us : List Int) (H5 : Hp), us.length = many.toNat → (∀ v ∈ us, 0 ≤ v ∧ v ≤ (o.length : Int)) → Ch [a] H H5 → Src H5 a (n + 100) → H5 D = some (.lst (us.map V.int)) →
      tRet (tCB (rSortedI K) (tCons (tVar 3) tNil)) { nx := fun _ H' => Q .non H', rt := Q } [some (.ref a), some (.ref b), some (.int many), some (.ref D), none] H5 := by
    intro us H5 hul hur c5 S5 h5
    obtain ⟨ps, hps, hP⟩ := polls_of (o := o) (by omega) hur
    refine s_retL (xs := (Lm.srt us).map V.int) (el_sorted (ev_var (v := .ref D) rfl) (SqL.of h5)) fun p H6 hp e6 h6 => ?_
    have hpa : p ≠ a := fun e => by
      obtain ⟨i0, i1, i2, h1, _⟩ := S5
      rw [e, h1] at hp
      cases hp
    have hp0 : H p = none := by
      cases e : H p with
      | none => rfl
      | some o => rw [c5 _ _ e (by simpa using hpa)] at hp; cases hp
    exact k p ps H6 hp0 (c5.trans (Ch.of e6)) (S5.ex e6) (by rw [hps]; exact h6) hP
  refine q_whenE ?_
  refine (et_test (ev_op (ev_var (v := .int many) (i := 2) rfl) (ev_c (v := .int 0)) rv_I0) : EvT _ [some (.ref a), some (.ref b), some (.int many), some (.ref D), none] H4 (decide (0 < many))) H4 (Ex.refl _) _ fun H5 e5 => ?_
  by_cases hm : 0 < many
  · refine if_yes (decide_eq_true hm) ?_
    refine e_draw (l := 2) rfl (S4.ex e5) (by omega) (by decide) (by decide) ev_c fun d H6 a6 b6 c6 S6 => ?_
    have hv6 := c6 _ _ (e5 _ _ hv4) (by simpa using hDa)
    refine ⟨rfl, _, rfl, ?_⟩
    have c46 : Ch [a] H H6 := (c4.trans (Ch.of e5)).trans c6
    by_cases hd : d = 0
    · subst hd
      refine if_yes (show decide (V.int 0 = V.int 0) = true by decide) ?_
      have hb6 : H6 b = some (.lst (o.map V.int)) := c46 _ _ hb (by simpa using hba)
      refine s_setL (σ := [some (.ref a), some (.ref b), some (.int many), some (.ref D), none]) (l := D) (j := 0) (xs := vs.map V.int) (v := .int (o.length : Int)) hv6 (ev_to (ev_len' (ev_var (v := .ref b) (i := 1) rfl) (SqL.of hb6)) (by rw [List.length_map])) (ev_var (v := .ref D) (i := 3) rfl) ev_c (by rw [List.length_map]; omega) fun H7 e7 => ?_
      refine fin (vs.set 0 (o.length : Int)) _ (by rw [List.length_set]; exact hvl) (fun v hv => ?_) (Ch.new (c46.trans (Ch.of e7)) hD0) ?_ (by rw [upd_same, List.map_set])
      · rcases List.mem_or_eq_of_mem_set hv with h | h
        · exact hvr v h
        · rw [h]
          exact ⟨by omega, Int.le_refl _⟩
      · obtain ⟨i0, i1, i2, g1, g2, g3, g4, g5⟩ := S6.ex e7
        exact ⟨i0, i1, i2, by rw [upd_ne hDa.symm]; exact g1, g2, g3, g4, by omega⟩
    · refine if_no (decide_eq_false fun h => hd (by injection h)) ?_
      exact fin vs H6 hvl hvr c46 (S6.le (by omega)) hv6
  · refine if_no (decide_eq_false hm) ?_
    exact fin vs H5 hvl hvr (c4.trans (Ch.of e5)) ((S4.ex e5).le (by omega)) (e5 _ _ hv4)
end
end Lp

/-! ## V17 -/
set_option Elab.async false
set_option linter.all false
set_option maxRecDepth 100000
set_option maxHeartbeats 4000000
/-! The union of what the polls make lost; the ids in danger. -/
namespace Lp
open PySem PySem.Spec PyProof.Rows L2 Evl
theorem trues_put2 {R : List Int} (x : Int) (hR : R.Nodup) : ∃ R', putK (trues R) (Sum.inl x) (.bl true) = trues R' ∧ R'.Nodup ∧ ∀ y, y ∈ R' ↔ y ∈ R ∨ y = x := by
  by_cases h : x ∈ R
  · refine ⟨R, ?_, hR, fun y => ⟨.inl, fun q => q.elim id fun e => e ▸ h⟩⟩
    have ha : ((trues R).any fun kv => decide (kv.1 = Sum.inl x)) = true := by
      rw [valV_any, trues_get]
      exact decide_eq_true h
    unfold putK
    rw [if_pos ha]
    unfold trues
    rw [List.map_map]
    refine List.map_congr_left fun y _ => ?_
    show (if (Sum.inl y : Key) = Sum.inl x then ((Sum.inl y : Key), V.bl true) else (Sum.inl y, V.bl true)) = _
    split <;> rfl
  · refine ⟨R ++ [x], trues_put h, ?_, fun y => by simp⟩
    rw [List.nodup_append]
    exact ⟨hR, by simp, fun a ha b hb e => h (by rw [List.mem_singleton] at hb; rw [← hb, ← e]; exact ha)⟩
section
variable {P : Program} {w : World} {K : PySem.W.Frag} {mg : Str → Option Value} {base : Heap}
def preLostL (K : PySem.W.Frag) : List V → Hp → List V → Prop := fun vs H xs => ∃ a b o ps, vs = [.ref a, .ref b] ∧ RdA K H a b o ps ∧ xs = (Lm.lostL o ps).map V.int
def nmUnion : List Str := ["_law_order_here", "_law_polls_here", "_law_found", "_law_moment", "_law_row"]
theorem sc_union : FnScope nmUnion ["_law_order_here", "_law_polls_here"] (defScope Lh.s_law_union) := ⟨rfl, rfl, rfl, by decide +kernel, rfl, by decide +kernel, by decide +kernel⟩
theorem ok_union (T : Facts K mg) : Def P w K mg base "_law_union" 6 ["_law_order_here", "_law_polls_here"] [] (spL 2 (preLostL K)) := by
  obtain ⟨fd, F⟩ := T.fn 40
  refine ⟨⟨fd, [], go F sc_union (spL_len rfl) fun cdv A outer s H vs Q E hr h => ?_, F.bindsN fun _ _ _ _ _ _ us hl => match us, hl with | [_, _], _ => rfl, .nil⟩, T.glo 27, F.kp⟩
  obtain ⟨hn, z, ⟨a, b, o, ps, rfl, R, rfl⟩, k⟩ := h
  have nd := sc_union.nd
  have hu := hu_of hr
  refine ⟨_, pss_cons (ps_set (i := 2) nd rfl (Or.inl rfl) pe_dnewK)
    (pss_cons (ps_for PassesOwn.never rfl (pi_list (pv 1)) (pg_name (i := 3) nd rfl (Or.inl rfl))
      (pss_one (ps_for PassesOwn.never rfl (pi_list (pe_def (ok_missed_at T) hr (pa_cons (pv 0) (pa_cons (pv 3) pa_nil)))) (pg_name (i := 4) nd rfl (Or.inl rfl))
        (pss_one (ps_dput hu (pv 2) (pv 4) pe_bl rfl)))))
    (pss_one (ps_ret (pe_callB (call_sortedDI rfl) rfl T.n_sorted boot_sorted (pa_cons (pv 2) pa_nil))))), ?_⟩
  refine q_asgE fun pF hF => ?_
  have hol := R.io.len
  have hpl := R.ip.len
  have sub : ∀ {ks : List Int}, (∀ x, x ∈ ks → x ∈ o) → ks.Nodup → ks.length ≤ 30 := fun h n => Nat.le_trans (List.Nodup.length_le_of_subset n fun x hx => h x hx) hol
  refine q_forLn (xs := nums ps) (ev_var (v := .ref b) rfl) (ex_l (Ex.new hF) R.sp) (fun i σ' H' => ∃ ks : List Int, ∃ v3 v4, Ex H H' ∧ H' pF = some (.dK (trues ks)) ∧ ks.Nodup ∧ (∀ x, x ∈ ks ↔ ∃ p ∈ ps.take i, x ∈ Lm.missed o p) ∧ σ' = [some (.ref a), some (.ref b), some (.ref pF), v3, v4]) ?_ (fun i σ' H' _ ⟨ks, v3, v4, e, _⟩ => ex_l e R.sp) ?_ ?_
  · intro H1 e1
    exact ⟨[], none, none, (Ex.new hF).trans e1, e1 _ _ upd_same, .nil, fun x => by simp, rfl⟩
  · rintro i x σ' H' hi ⟨ks, v3, v4, e, hk, hkn, hkm, rfl⟩
    obtain ⟨p, hpi, rfl⟩ := nums_get hi
    have hpn := R.ip.le p (List.mem_of_getElem? hpi)
    have htk : ps.take (i + 1) = ps.take i ++ [p] := by rw [List.take_add_one, hpi]; rfl
    refine s_forNL (xs := (Lm.missed o p).map V.int) (el_spL (ea_cons (ev_var (v := .ref a) rfl) (ea_cons (ev_var (v := .int (p : Int)) rfl) ea_nil)) rfl fun H1 e1 => ⟨a, o, p, rfl, ex_l (e.trans e1) R.so, R.io, hpn, rfl⟩)
      (fun q j σ' H'' => q ≠ pF ∧ H'' q = some (.lst ((Lm.missed o p).map V.int)) ∧ ∃ ks' : List Int, ∃ v4, Ex H H'' ∧ H'' pF = some (.dK (trues ks')) ∧ ks'.Nodup ∧ (∀ x, x ∈ ks' ↔ x ∈ ks ∨ x ∈ (Lm.missed o p).take j) ∧ σ' = [some (.ref a), some (.ref b), some (.ref pF), some (.int (p : Int)), v4]) ?_ (fun q j σ' H'' _ h => SqL.of h.2.1) ?_ ?_
    · intro q H1 hq e1 h1
      exact ⟨(fun z => by rw [z, hk] at hq; cases hq), h1, ks, v4, e.trans e1, e1 _ _ hk, hkn, fun x => by simp, rfl⟩
    · rintro q j x σ' H'' hj ⟨hqF, hq, ks', v4', e', hk', hkn', hkm', rfl⟩
      obtain ⟨y, hyj, rfl⟩ := ints_get hj
      obtain ⟨R', hput, hRn, hRm⟩ := trues_put2 y hkn'
      have hlen : ks'.length ≤ 30 := sub (fun x hx => by
        rcases (hkm' x).mp hx with h | h
        · obtain ⟨p', _, h⟩ := (hkm x).mp h
          exact ((Lm.mem_missed R.io.nd).mp h).1
        · exact ((Lm.mem_missed R.io.nd).mp (List.mem_of_mem_take h)).1) hkn'
      refine s_dput (k := Sum.inl y) (kvs := trues ks') (v := .bl true) ev_c (ev_var (v := .ref pF) rfl) (ev_var (v := .int y) rfl) hk' (by rw [mxl0_len]; omega) fun H1 e1 => ?_
      rw [hput]
      refine ⟨hqF, by rw [upd_ne hqF]; exact e1 _ _ hq, R', _, Ex.mut (e'.trans e1) hF, upd_same, hRn, fun x => ?_, rfl⟩
      rw [hRm, hkm', List.take_add_one, hyj, List.mem_append]
      show _ ↔ _ ∨ _ ∨ x ∈ [y]
      rw [List.mem_singleton, or_assoc]
    · rintro q σ' H'' ⟨hqF, hq, ks', v4', e', hk', hkn', hkm', rfl⟩
      refine ⟨ks', _, _, e', hk', hkn', fun x => ?_, rfl⟩
      rw [hkm', List.length_map, List.take_length, hkm, htk]
      constructor
      · rintro (⟨p', hp', h⟩ | h)
        · exact ⟨p', List.mem_append_left _ hp', h⟩
        · exact ⟨p, List.mem_append_right _ (List.mem_singleton.mpr rfl), h⟩
      · rintro ⟨p', hp', h⟩
        rcases List.mem_append.mp hp' with h' | h'
        · exact .inl ⟨p', h', h⟩
        · rw [List.mem_singleton.mp h'] at h
          exact .inr h
  · rintro σ' H' ⟨ks, v3, v4, e, hk, hkn, hkm, rfl⟩
    rw [nums_len, List.take_length] at hkm
    have hlen : ks.length ≤ 30 := sub (fun x hx => by
      obtain ⟨p', _, h⟩ := (hkm x).mp hx
      exact ((Lm.mem_missed R.io.nd).mp h).1) hkn
    have hun := Lm.union_is R.io hkn hkm
    refine s_retL (xs := (Lm.lostL o ps).map V.int) (fun H1 e1 Q' q => ?_) fun p H1 hp e1 h1 => k p H1 (fresh_back e hp) (e.trans e1) h1
    refine ⟨.ref pF, rfl, pF, trues ks, ks, rfl, .inl (e1 _ _ hk), trues_keys ks, by omega, fun ns' p' hp hs' hn' => ?_⟩
    rw [Lm.srt_eq hp hs', hun]
    exact q p' _ hn' (Ex.new hn') upd_same
end
end Lp

/-! ## V18 -/
set_option Elab.async false
set_option linter.all false
set_option maxRecDepth 100000
set_option maxHeartbeats 4000000
/-! The ids in danger of a poll. -/
namespace Lp
open PySem PySem.Spec PyProof.Rows L2 Evl
section
variable {P : Program} {w : World} {K : PySem.W.Frag} {mg : Str → Option Value} {base : Heap}
def nmDng : List Str := ["_law_order_here", "_law_polls_here", "_law_found", "_law_row", "_law_first", "_law_last", "_law_moment"]
theorem sc_in_danger : FnScope nmDng ["_law_order_here", "_law_polls_here"] (defScope Lh.s_law_in_danger) := ⟨rfl, rfl, rfl, by decide +kernel, rfl, by decide +kernel, by decide +kernel⟩
theorem ok_in_danger (T : Facts K mg) : Def P w K mg base "_law_in_danger" 6 ["_law_order_here", "_law_polls_here"] [] (spL 2 (preLostL K)) := by
  obtain ⟨fd, F⟩ := T.fn 41
  refine ⟨⟨fd, [], go F sc_in_danger (spL_len rfl) fun cdv A outer s H vs Q E hr h => ?_, F.bindsN fun _ _ _ _ _ _ us hl => match us, hl with | [_, _], _ => rfl, .nil⟩, T.glo 28, F.kp⟩
  obtain ⟨hn, z, ⟨a, b, o, ps, rfl, R, rfl⟩, k⟩ := h
  have nd := sc_in_danger.nd
  have hu := hu_of hr
  refine ⟨_, pss_cons (ps_set (i := 2) nd rfl (Or.inl rfl) (pe_lst pa_nil))
    (pss_cons (ps_for PassesOwn.never rfl (pi_list (pe_callB cr_sortedI rfl T.n_sorted boot_sorted (pa_cons (pv 0) pa_nil))) (pg_name (i := 3) nd rfl (Or.inl rfl))
      (pss_cons (ps_asg (pe_orT (pe_def (ok_danger_of T) hr (pa_cons (pv 0) (pa_cons (pv 3) pa_nil))) (pe_one (pe_tup (pa_cons pe_int (pa_cons pe_int pa_nil))))) (pg_tup rfl (pgs_cons (pg_name (i := 4) nd rfl (Or.inr rfl)) (pgs_cons (pg_name (i := 5) nd rfl (Or.inr rfl)) pgs_nil))))
        (pss_one (ps_if (pt_cmpR (op_neD hr.units) (pe_lc (own := [("_law_moment", 6)]) (g := gName 6) rfl nd (pi_list (pv 1)) (blkOk_by (own := [("_law_moment", 6)]) (N := nmDng) (sc := defScope Lh.s_law_in_danger) (by decide +kernel)) (fun _ _ _ _ _ => pg_name (i := 6) nd rfl (Or.inl rfl))
              (fun _ _ _ _ _ => pts_one (pt_chain op_le op_le (pv 4) (pv 6) (pv 5))) (fun _ _ _ _ _ => pv 6)) (pe_lst pa_nil) (nomark _))
          (pss_one (ps_expr (pe_bm PySem.F.plainAttrs_list PySem.F.slot_list_append PySem.F.type_list_append mt_append (pv 2) (pa_cons (pv 3) pa_nil)))) pss_nil))))
    (pss_one (ps_ret (pv 2)))), ?_⟩
  have hol := R.io.len
  have hpl := R.ip.len
  refine q_asgL (xs := []) (el_lst ea_nil (by decide)) fun pF H1 hF e1 h1 => ?_
  refine q_forNLn (xs := (Lm.srt o).map V.int) (el_sorted (ev_var (v := .ref a) rfl) (ex_l e1 R.so))
    (fun q j σ' H' => q ≠ pF ∧ H' q = some (.lst ((Lm.srt o).map V.int)) ∧ Ex H H' ∧ H' pF = some (.lst ((((Lm.srt o).take j).filter (Lm.dngs o ps)).map V.int)) ∧ ∃ v3 v4 v5, σ' = [some (.ref a), some (.ref b), some (.ref pF), v3, v4, v5, none]) ?_ (fun q j σ' H' _ h => SqL.of h.2.1) ?_ ?_
  · intro q H2 hq e2 h2
    exact ⟨(fun e => by rw [e, h1] at hq; cases hq), h2, e1.trans e2, e2 _ _ h1, none, none, none, rfl⟩
  · rintro q j x σ' H' hj ⟨hqF, hq, e, hf, v3, v4, v5, rfl⟩
    obtain ⟨n, hnj, rfl⟩ := ints_get hj
    have hno : n ∈ o := Lm.mem_srt.mp (List.mem_of_getElem? hnj)
    have htk : (Lm.srt o).take (j + 1) = (Lm.srt o).take j ++ [n] := by rw [List.take_add_one, hnj]; rfl
    have hjl := (List.getElem?_eq_some_iff.mp hnj).1
    rw [Lm.srt_len] at hjl
    -- behind the pair
    have tail : ∀ (f l : Int) (H2 : Hp) (D : Ends), Ex H' H2 → (∀ p ∈ ps, (decide (f ≤ (p : Int)) && decide ((p : Int) ≤ l)) = decide (Lm.dng o n p)) →
        (∀ H3, Ex H2 H3 → Lm.dngs o ps n = true → D.nx [some (.ref a), some (.ref b), some (.ref pF), some (.int n), some (.int f), some (.int l), none] (upd H3 pF (.lst ((((Lm.srt o).take j).filter (Lm.dngs o ps)).map V.int ++ [.int n])))) →
        (∀ H3, Ex H2 H3 → Lm.dngs o ps n = false → D.nx [some (.ref a), some (.ref b), some (.ref pF), some (.int n), some (.int f), some (.int l), none] H3) →
        tIfS (tTest (tOp (rNeD K) (tLc (iList K (tVar 1)) (gName 6) (tTest (tChain (rI0 fun i j => .bl (decide (i ≤ j))) (rI0 fun i j => .bl (decide (i ≤ j))) (tVar 4) (tVar 6) (tVar 5))) (tVar 6) [6]) (tLst tNil))) (tDrop (tBM K "list" rAppend (tVar 2) (tCons (tVar 3) tNil))) tNext
          D [some (.ref a), some (.ref b), some (.ref pF), some (.int n), some (.int f), some (.int l), none] H2 := by
      intro f l H2 D e2 hc k1 k0
      have ht : EvT (tTest (tOp (rNeD K) (tLc (iList K (tVar 1)) (gName 6) (tTest (tChain (rI0 fun i j => .bl (decide (i ≤ j))) (rI0 fun i j => .bl (decide (i ≤ j))) (tVar 4) (tVar 6) (tVar 5))) (tVar 6) [6]) (tLst tNil))) [some (.ref a), some (.ref b), some (.ref pF), some (.int n), some (.int f), some (.int l), none] H2 (Lm.dngs o ps n) := by
        refine et_is (et_test (ev_opLL (el_flt (em := fun p : Nat => V.int (p : Int)) (xs := ps) (fun p => decide (f ≤ (p : Int)) && decide ((p : Int) ≤ l)) (ev_var (v := .ref b) rfl) (ex_l (e.trans e2) R.sp) (by omega) (fun x => rfl) (fun x => rfl) fun p hp H3 e3 =>
          et_test (ev_chain (ev_var (v := .int f) rfl) (ev_var (v := .int (p : Int)) rfl) rv_I0 (fun _ => ev_var (v := .int l) rfl) fun _ => rv_I0)) (el_lst ea_nil (by decide)) fun p q H3 hp hq e3 =>
            rv_neInts (ns := (ps.filter fun p : Nat => decide (f ≤ (p : Int)) && decide ((p : Int) ≤ l)).map fun p : Nat => (p : Int)) (ms := []) (SqL.of (by rw [List.map_map]; exact hp)) (SqL.of hq))) ?_
        have e1 : (ps.filter fun p : Nat => decide (f ≤ (p : Int)) && decide ((p : Int) ≤ l)) = ps.filter fun p => decide (Lm.dng o n p) := List.filter_congr fun p hp => hc p hp
        rw [e1]
        unfold Lm.dngs
        cases hd : ps.any fun p => decide (Lm.dng o n p) with
        | true =>
          obtain ⟨p, hp, hp2⟩ := List.any_eq_true.mp hd
          have hm : p ∈ ps.filter fun p => decide (Lm.dng o n p) := List.mem_filter.mpr ⟨hp, hp2⟩
          rw [decide_eq_false]
          · rfl
          · intro z
            rw [List.map_eq_nil_iff.mp z] at hm
            exact absurd hm List.not_mem_nil
        | false =>
          rw [decide_eq_true]
          · rfl
          · rw [List.map_eq_nil_iff, List.filter_eq_nil_iff]
            intro p hp hp2
            have := List.any_eq_false.mp hd p hp
            exact this hp2
      refine s_when ht (fun hb H3 e3 => ?_) fun hb H3 e3 => k0 H3 e3 hb
      exact s_app (l := pF) ((e2.trans e3) _ _ hf) (ev_var (v := .ref pF) rfl) (ev_var (v := .int n) rfl) (by rw [List.length_map]; have h1 := List.length_filter_le (Lm.dngs o ps) ((Lm.srt o).take j); have h2 := List.length_take_le j (Lm.srt o); omega) fun H4 e4 => k1 H4 (e3.trans e4) hb
    have next : ∀ (f l : Int) (H2 : Hp), Ex H' H2 → (Lm.dngs o ps n = true → q ≠ pF ∧ upd H2 pF (.lst ((((Lm.srt o).take j).filter (Lm.dngs o ps)).map V.int ++ [.int n])) q = some (.lst ((Lm.srt o).map V.int)) ∧ Ex H (upd H2 pF (.lst ((((Lm.srt o).take j).filter (Lm.dngs o ps)).map V.int ++ [.int n]))) ∧ upd H2 pF (.lst ((((Lm.srt o).take j).filter (Lm.dngs o ps)).map V.int ++ [.int n])) pF = some (.lst ((((Lm.srt o).take (j + 1)).filter (Lm.dngs o ps)).map V.int))) ∧
        (Lm.dngs o ps n = false → q ≠ pF ∧ H2 q = some (.lst ((Lm.srt o).map V.int)) ∧ Ex H H2 ∧ H2 pF = some (.lst ((((Lm.srt o).take (j + 1)).filter (Lm.dngs o ps)).map V.int))) := by
      intro f l H2 e2
      refine ⟨fun hd => ⟨hqF, by rw [upd_ne hqF]; exact e2 _ _ hq, Ex.mut (e.trans e2) hF, ?_⟩, fun hd => ⟨hqF, e2 _ _ hq, e.trans e2, ?_⟩⟩
      · rw [upd_same, htk, List.filter_append, List.filter_cons, if_pos hd, List.map_append]
        rfl
      · rw [htk, List.filter_append, List.filter_cons, hd, if_neg Bool.false_ne_true, List.filter_nil, List.append_nil]
        exact e2 _ _ hf
    refine seq ?_
    show tCall _ _ _ _ _ _ _
    refine call_in ?_
    refine (ea_cons (ev_var (v := .ref a) (i := 0) rfl) (ea_cons (ev_var (v := .int n) (i := 3) rfl) ea_nil) : EvA _ [some (.ref a), some (.ref b), some (.ref pF), some (.int n), v4, v5, none] H' [.ref a, .int n]) H' (Ex.refl _) _ fun H2 e2 => ?_
    refine ⟨a, o, n, rfl, ex_l (e.trans e2) R.so, R.io, hno, fun hd H3 e3 => ?_, fun m kk hd p H3 hp e3 h3 => ?_⟩
    · refine ⟨false, rfl, ?_⟩
      refine if_no rfl ?_
      refine (eu_tup (ea_cons (ev_c (v := .int 1)) (ea_cons (ev_c (v := .int 0)) ea_nil)) (by show 2 ≤ 100000; decide) : EvU _ [some (.ref a), some (.ref b), some (.ref pF), some (.int n), v4, v5, none] H3 [.int 1, .int 0]) H3 (Ex.refl _) _ fun p H4 hp e4 h4 => ?_
      refine ⟨p, _, rfl, SqT.of h4, rfl, _, _, rfl, _, _, rfl, rfl, ?_⟩
      have e24 := (e2.trans e3).trans e4
      refine tail 1 0 H4 _ e24 (fun p hp => ?_) (fun H5 e5 hb => ?_) fun H5 e5 hb => ?_
      · have h1 : (decide ((1 : Int) ≤ (p : Int)) && decide ((p : Int) ≤ 0)) = false := by
          cases p with
          | zero => rfl
          | succ p =>
            rw [decide_eq_false (show ¬ ((p + 1 : Nat) : Int) ≤ 0 by omega), Bool.and_false]
        rw [h1, decide_eq_false (Lm.danger_none R.io.nd hd)]
      · obtain ⟨q1, q2, q3, q4⟩ := (next 1 0 H5 (e24.trans e5)).1 hb
        exact ⟨q1, q2, q3, q4, _, _, _, rfl⟩
      · obtain ⟨q1, q2, q3, q4⟩ := (next 1 0 H5 (e24.trans e5)).2 hb
        exact ⟨q1, q2, q3, q4, _, _, _, rfl⟩
    · refine ⟨true, .inr (.inl ⟨_, SqT.of h3, rfl⟩), ?_⟩
      refine if_yes rfl ?_
      refine ⟨p, _, rfl, SqT.of h3, rfl, _, _, rfl, _, _, rfl, rfl, ?_⟩
      have e23 := e2.trans e3
      refine tail (m : Int) (kk : Int) H3 _ e23 (fun p hp => ?_) (fun H5 e5 hb => ?_) fun H5 e5 hb => ?_
      · have := Lm.danger_hit R.io.nd (p := p) hd
        rw [← Bool.decide_and]
        refine decide_eq_decide.mpr ⟨fun ⟨h1, h2⟩ => this.mp ⟨by omega, by omega⟩, fun h => ?_⟩
        obtain ⟨h1, h2⟩ := this.mpr h
        exact ⟨by omega, by omega⟩
      · obtain ⟨q1, q2, q3, q4⟩ := (next m kk H5 (e23.trans e5)).1 hb
        exact ⟨q1, q2, q3, q4, _, _, _, rfl⟩
      · obtain ⟨q1, q2, q3, q4⟩ := (next m kk H5 (e23.trans e5)).2 hb
        exact ⟨q1, q2, q3, q4, _, _, _, rfl⟩
  · rintro q σ' H' ⟨hqF, hq, e, hf, v3, v4, v5, rfl⟩
    rw [List.length_map, List.take_length] at hf
    exact s_ret (ev_var (v := .ref pF) rfl) fun H2 e2 => k pF H2 hF (e.trans e2) (e2 _ _ hf)
end
end Lp

/-! ## V19 -/
set_option Elab.async false
set_option linter.all false
set_option maxRecDepth 100000
set_option maxHeartbeats 8000000
/-! What the law asks of an order and polls: the walk of the code. -/
namespace Lp
open PySem PySem.Spec PyProof.Rows L2 Evl
theorem passW {X : Cx} : Passes (L2.CX X.prog X.w) X E0 := fun _ _ _ _ _ _ _ h => by
  obtain ⟨a, B, H', cls, d, _, _, _, _, _, _, _, h⟩ := h
  exact h.elim
theorem noStop0 {K : PySem.W.Frag} : NoStop K E0 := fun _ _ _ h => h.elim
theorem q_par3 {ta : TA} {tz : TS} {D : Ends} {σ : L2.St} {H : Hp} {i j l : Nat} (h : ta σ H fun vs H1 => ∃ u v w, vs = [u, v, w] ∧ tz D (((σ.set i (some u)).set j (some v)).set l (some w)) H1) : tSeq (tPar3 i j l ta) tz D σ H := h
theorem q_par2 {ta : TA} {tz : TS} {D : Ends} {σ : L2.St} {H : Hp} {i j : Nat} (h : ta σ H fun vs H1 => ∃ v w, vs = [v, w] ∧ tz D ((σ.set i (some v)).set j (some w)) H1) : tSeq (tPar i j ta) tz D σ H := h
theorem listG_in {sp : SpG} {dvs : List V} {E : XK} {t : TA} {σ : L2.St} {H : Hp} {Q : VK} (h : t σ H fun vs H1 => sp (vs ++ dvs) H1 (fun out H2 => ∀ p, H2 p = none → Q (.ref p) (upd H2 p (.lst out))) E) : tListG (tCallG sp dvs E t) σ H Q := h
theorem q_forZ {K : PySem.W.Frag} {σ : L2.St} {H : Hp} {g : TG} {tb tz : TS} {D : Ends} {i j : Nat} {p q : Addr} {xs ys : List V} {n : Nat} (h1 : σ[i]? = some (some (.ref p))) (h2 : σ[j]? = some (some (.ref q))) (hx : H p = some (.lst xs)) (hy : H q = some (.lst ys)) (hn : n = min xs.length ys.length)
    (Pv : Nat → L2.St → Hp → Prop) (h0 : Pv 0 σ H) (hG : ∀ i σ' H', Pv i σ' H' → H' p = some (.lst xs) ∧ H' q = some (.lst ys))
    (hs : ∀ i T x y σ' H', xs[i]? = some x → ys[i]? = some y → Pv i σ' H' → H' T = none → g (.ref T) σ' (upd H' T (.tup [x, y])) fun σ2 H2 => tb { D with nx := Pv (i + 1), ct := Pv (i + 1), bk := tz D } σ2 H2) (hd : ∀ σ' H', Pv n σ' H' → tz D σ' H') :
    tSeq (tFor (iZip K (tCons (tVar i) (tCons (tVar j) tNil))) g tb) tz D σ H := by
  refine ⟨.ref p, h1, .ref q, h2, p, q, xs, ys, rfl, SqL.of hx, SqL.of hy, ?_⟩
  refine for_it (D := { D with nx := tz D }) (walk_zip (K := K) (a := p) (b := q) (xs := xs) (ys := ys) hn) Pv h0 (fun i σ' H' _ h => ⟨SqL.of (hG i σ' H' h).1, SqL.of (hG i σ' H' h).2⟩) ?_ hd
  rintro i v σ' H' H'' hi h ⟨T, x, y, rfl, hT, rfl, hx, hy⟩
  exact hs i T x y σ' H' hx hy h hT
theorem en_dictP {K : PySem.W.Frag} {σ : L2.St} {H : Hp} {ta : TE} {a : Addr} {ts : List Addr} {kvs : List (Key × V)} (ha : Ev ta σ H (.ref a)) (h : H a = some (.lst (ts.map V.ref))) (hp : Paired (fun p kv => H p = some (.tup [kV kv.1, kv.2])) ts kvs) :
    EvN (tCB (fun xs H Q => ∃ (a : Addr) (ps : List Addr) (kvs : List (Key × V)), xs = [.ref a] ∧ SqL K H a (ps.map V.ref) ∧ Paired (fun p kv => SqT K H p [kV kv.1, kv.2]) ps kvs ∧ ∀ p, H p = none → Q (.ref p) (upd H p (.dK (mergeK [] kvs)))) (tCons ta tNil)) σ H (.dK (mergeK [] kvs)) := by
  intro H1 e1 Q q
  exact ha H1 e1 _ fun H2 e2 => ⟨a, ts, kvs, rfl, SqL.of ((e1.trans e2) _ _ h), Paired.mapP hp fun p kv h => SqT.of ((e1.trans e2) _ _ h), fun p hp => q p _ (fresh_back e2 hp) (e2.trans (Ex.new hp)) upd_same⟩
theorem ev_opN {σ : L2.St} {H : Hp} {ta tb : TE} {r : R2} {x z : V} {u : HO} (ha : Ev ta σ H x) (hb : EvN tb σ H u) (hr : ∀ p H1, H1 p = some u → Ex H H1 → RV r x (.ref p) H1 z) : Ev (tOp r ta tb) σ H z := by
  intro H1 e1 Q k
  exact ha H1 e1 _ fun H2 e2 => hb H2 (e1.trans e2) _ fun p H3 hp e3 h3 => hr p H3 h3 ((e1.trans e2).trans e3) H3 (Ex.refl _) _ fun H4 e4 => k H4 ((e2.trans e3).trans e4)
theorem ev_int1 {σ : L2.St} {H : Hp} {ta : TE} {b : Bool} (ha : Ev ta σ H (.bl b)) : Ev (tCB (fun xs H Q => (∃ i, xs = [.int i] ∧ Q (.int i) H) ∨ ∃ k, xs = [.bl k] ∧ Q (.int (if k then 1 else 0)) H) (tCons ta tNil)) σ H (.int (if b then 1 else 0)) :=
  ev_cb (ea_cons ha ea_nil) fun H1 e Q k => .inr ⟨b, rfl, k H1 (Ex.refl _)⟩
/-- a list with a tuple's parts: data -/
theorem dp_pair {K : PySem.W.Frag} {H : Hp} {T r : Addr} {rs : List Int} {c : Int} (h : SqT K H T [.ref r, .int c]) (hr : SqL K H r (rs.map V.int)) : Dp K H (.ref T) (.tuple [.list (rs.map .int), .int c]) := .tup h (.cons (.lst hr (dp_ints rs)) (.cons (.int c) .nil))
theorem shaped_pair (rs : List Int) (c : Int) : SeqAt.shaped (.tuple [.list (rs.map .int), .int c]) = true := by
  have h1 := PySem.W.depthAll_ints rs
  have h2 : PyData.depth (.tuple [.list (rs.map PyData.int), .int c]) ≤ 64 := by
    simp only [PyData.depth, PyData.depthAll]
    omega
  show (PyData.canLay0 (.tuple [.list (rs.map PyData.int), .int c]) && decide (PyData.depth (.tuple [.list (rs.map PyData.int), .int c]) ≤ 64)) = true
  rw [Bool.and_eq_true]
  refine ⟨?_, decide_eq_true h2⟩
  simp only [PyData.canLay0, PyData.canLayAll0, PySem.W.canLayAll0_ints, Bool.and_self]
theorem eqv_pair (rs : List Int) (c : Int) : PyData.eqv (.tuple [.list (rs.map .int), .int c]) (.tuple [.list (rs.map .int), .int c]) = true := by
  simp [PyData.eqv, PyData.eqvAll, PySem.W.ked_eqvAll]
theorem paired_snoc {α β : Type} {Rl : α → β → Prop} : ∀ {as : List α} {bs : List β} {a : α} {b : β}, Paired Rl as bs → Rl a b → Paired Rl (as ++ [a]) (bs ++ [b])
  | [], [], _, _, .nil, h => .cons h .nil
  | _ :: _, _ :: _, _, _, .cons h t, q => .cons h (paired_snoc t q)
theorem paired_get {α β : Type} {Rl : α → β → Prop} : ∀ {as : List α} {bs : List β} {i : Nat} {a : α}, Paired Rl as bs → as[i]? = some a → ∃ b, bs[i]? = some b ∧ Rl a b
  | _, _, _, _, .nil, h => by simp at h
  | _, _, 0, _, .cons h t, q => by
    cases q
    exact ⟨_, rfl, h⟩
  | _, _, i + 1, _, .cons h t, q => by
    obtain ⟨rs, h1, h2⟩ := paired_get (i := i) t (by simpa using q)
    exact ⟨rs, by simpa using h1, h2⟩
theorem stV_lost (s : Lm.Stt) : decide (stV s = .str "lost") = decide (s = .lost) := by cases s <;> decide
/-- [row for row, state in due if state == 'lost'] -/
theorem el_due {K : PySem.W.Frag} {H : Hp} {c0 c1 c2 c3 c4 c5 c6 c7 c8 c9 c10 c12 c13 c14 : Option V} {pD : Addr} {ts : List Addr} {xs RR : List Int} {CC : Int} (hD : H pD = some (.lst (ts.map V.ref))) (hP : Paired (fun t kv => H t = some (.tup [kV kv.1, kv.2])) ts (xs.map (stKV RR CC))) (hl : xs.length ≤ 30) :
    EvL (tLc (iList K (tVar 11)) (gTup K 2 (gCons (gName 12) (gCons (gName 13) gNil))) (tTest (tOp rEq (tVar 13) (tC (.str "lost")))) (tVar 12) [12, 13]) [c0, c1, c2, c3, c4, c5, c6, c7, c8, c9, c10, some (.ref pD), c12, c13, c14] H ((xs.filter fun x => decide (Lm.stt RR CC x = .lost)).map V.int) := by
  intro H1 e1 Q k
  refine ⟨.ref pD, rfl, pD, rfl, ⟨_, SqL.of (e1 _ _ hD)⟩, fun D hD' => ?_⟩
  have htl : ts.length = xs.length := by rw [Paired.length hP, List.length_map]
  refine lc_pure (n := ts.length) (List.length_map V.ref ▸ walk_list (K := K) (a := pD) (xs := ts.map V.ref)) (fun i => (xs[i]?).bind fun x => if decide (Lm.stt RR CC x = .lost) = true then some (V.int x) else none) hD' (fun H' e' => SqL.of (e' _ _ (e1 _ _ hD))) (by omega) ?_ fun H' e' h' => ?_
  · rintro i x H' H'' hi e' ⟨rfl, hy⟩
    rw [List.getElem?_map, List.getElem?_eq_getElem hi] at hy
    have hy' : V.ref ts[i] = x := Option.some.inj hy
    subst hy'
    obtain ⟨kv, hkv, htup⟩ := paired_get hP (List.getElem?_eq_getElem hi)
    have hix : i < xs.length := by omega
    rw [List.getElem?_map, List.getElem?_eq_getElem hix] at hkv
    have hkv2 : stKV RR CC xs[i] = kv := Option.some.inj hkv
    subst hkv2
    have htup' : H'' ts[i] = some (.tup [.int xs[i], stV (Lm.stt RR CC xs[i])]) := e' _ _ (e1 _ _ htup)
    rw [List.getElem?_eq_getElem hix]
    generalize xs[i] = x at htup' ⊢
    have ht : EvT (tTest (tOp rEq (tVar 13) (tC (.str "lost")))) [c0, c1, c2, c3, c4, c5, c6, c7, c8, c9, c10, some (.ref pD), some (.int x), some (stV (Lm.stt RR CC x)), c14] H'' (decide (Lm.stt RR CC x = .lost)) :=
      et_is (et_test (ev_op (ev_var (v := stV (Lm.stt RR CC x)) rfl) (ev_c (v := .str "lost")) (rv_eq (by cases Lm.stt RR CC x <;> rfl)))) (stV_lost _)
    refine ⟨Ex.refl _, [c0, c1, c2, c3, c4, c5, c6, c7, c8, c9, c10, some (.ref pD), some (.int x), some (stV (Lm.stt RR CC x)), c14], rfl, fun Q q => g_pair htup' q, fun z => ?_, fun v z => ?_⟩
    · cases hd : decide (Lm.stt RR CC x = .lost) with
      | false => rw [hd] at ht; exact ht
      | true => rw [Option.bind_some, hd] at z; cases z
    · cases hd : decide (Lm.stt RR CC x = .lost) with
      | false => rw [Option.bind_some, hd] at z; cases z
      | true =>
        rw [Option.bind_some, hd] at z
        cases z
        rw [hd] at ht
        exact ⟨ht, ev_var rfl⟩
  · refine k D H' hD' e' ?_
    rw [h', htl, range_fm', fm_flt]
theorem rv_eqInts {K : PySem.W.Frag} {H : Hp} {p q : Addr} {ns ms : List Int} (h1 : SqL K H p (ns.map V.int)) (h2 : SqL K H q (ms.map V.int)) : RV (rEqD K) (.ref p) (.ref q) H (.bl (decide (ns = ms))) := fun H1 e Q k =>
  ⟨.list (ns.map .int), .list (ms.map .int), .lst (ex_l e h1) (dp_ints ns), .lst (ex_l e h2) (dp_ints ms), PySem.W.shaped_ints ns, PySem.W.shaped_ints ms, by rw [eqv_ints]; exact k H1 (Ex.refl _)⟩
theorem lst_in {t : TA} {σ : L2.St} {H : Hp} {Q : VK} (h : t σ H fun xs H1 => xs.length ≤ sizeLine ∧ ∀ p, H1 p = none → Q (.ref p) (upd H1 p (.lst xs))) : tLst t σ H Q := h
theorem mem_nums {ps : List Nat} {p : Nat} : V.int (p : Int) ∈ nums ps ↔ p ∈ ps := by
  unfold nums
  rw [List.mem_map]
  constructor
  · rintro ⟨q, hq, e⟩
    injection e with e
    have : q = p := by omega
    exact this ▸ hq
  · exact fun h => ⟨p, h, rfl⟩
theorem more_polls {o : List Int} {ps : List Nat} {d : Int} (hP : Lm.IsPolls o ps) (h0 : 0 ≤ d) (h1 : d ≤ o.length) :
    ∃ qs, nums qs = ((Lm.srt (ps.map (fun p : Nat => (p : Int)) ++ [d])).take 30).map V.int ∧ Lm.IsPolls o qs ∧ (ps.length < 30 → ∀ p ∈ ps, p ∈ qs) := by
  obtain ⟨qs, hq, hQ⟩ := polls_of (o := o) (vs := (Lm.srt (ps.map (fun p : Nat => (p : Int)) ++ [d])).take 30) (by rw [List.length_take]; omega) fun v hv => by
    have hv := Lm.mem_srt.mp (List.mem_of_mem_take hv)
    rcases List.mem_append.mp hv with hv | hv
    · obtain ⟨p, hp, rfl⟩ := List.mem_map.mp hv
      have := hP.le p hp
      exact ⟨by omega, by omega⟩
    · rw [List.mem_singleton.mp hv]
      exact ⟨h0, h1⟩
  rw [Lm.srt_id ((Lm.srt_pw _).sublist (List.take_sublist _ _))] at hq
  refine ⟨qs, hq, hQ, fun hl p hp => mem_nums.mp ?_⟩
  rw [hq, List.take_of_length_le (by rw [Lm.srt_len, List.length_append, List.length_map]; show _ + 1 ≤ 30; omega)]
  exact List.mem_map.mpr ⟨(p : Int), Lm.mem_srt.mpr (List.mem_append_left _ (List.mem_map.mpr ⟨p, hp, rfl⟩)), rfl⟩
theorem e_more {K : PySem.W.Frag} {σ : L2.St} {H : Hp} {Q : VK} {s a b : Addr} {n : Nat} {o : List Int} {ps : List Nat} (h0 : σ[0]? = some (some (.ref s))) (h1 : σ[1]? = some (some (.ref a))) (h2 : σ[2]? = some (some (.ref b))) (hS : Src H s n) (hn : n ≤ 100000) (ha : H a = some (.lst (o.map V.int))) (hb : H b = some (.lst (nums ps)))
    (hO : Lm.IsOrd o) (hP : Lm.IsPolls o ps) (hbs : b ≠ s) (k : ∀ m qs H', H' m = some (.lst (nums qs)) → Lm.IsPolls o qs → (ps.length < 30 → ∀ p ∈ ps, p ∈ qs) → Ch [s] H H' → Src H' s (n + 1) → Q (.ref m) H') :
    tSl (rSlL K) (tCB (rSortedI K) (tCons (tOp rCat (tVar 2) (tLst (tCons (tCall spDraw [] E0 (tCons (tVar 0) (tCons (tOp (rI0 fun i j => .int (i + j)) (tCB (fun xs H Q => ∃ p ys, xs = [.ref p] ∧ (SqL K H p ys ∨ SqT K H p ys) ∧ Q (.int ys.length) H) (tCons (tVar 1) tNil)) (tC (.int 1))) tNil))) tNil))) tNil)) tNoPart (tPart (tC (.int 30))) σ H Q := by
  have hol := hO.len
  have hpl := hP.len
  refine ⟨.ref b, h2, ?_⟩
  refine lst_in (cons_in (e_draw (l := (o.length : Int) + 1) h0 hS (by omega) (by omega) (by omega) (ev_to (ev_op (ev_len' (ev_var (v := .ref a) h1) (SqL.of ha)) ev_c rv_I0) (by rw [List.length_map])) fun d H1 a1 b1 c1 S1 => ?_))
  refine ⟨by show 1 ≤ sizeLine; decide, fun pD hD => ?_⟩
  obtain ⟨qs, hqs, hQ, hsub⟩ := more_polls (d := d) hP a1 (by omega)
  have hb1 := c1 _ _ hb (by simpa using hbs)
  have hcat : nums ps ++ [V.int d] = (ps.map (fun p : Nat => (p : Int)) ++ [d]).map V.int := by
    unfold nums
    rw [List.map_append, List.map_map]
    rfl
  refine ⟨b, pD, nums ps, [.int d], rfl, rfl, Ex.new hD _ _ hb1, upd_same, sz_of (by rw [nums_len]; show _ + 1 ≤ _; omega), fun r hr => ?_⟩
  refine ⟨r, _, rfl, SqL.of (by rw [upd_same, hcat]), fun ns' q hp hs' hn' => ?_⟩
  rw [Lm.srt_eq hp hs']
  refine ⟨30, rfl, q, _, rfl, SqL.of upd_same, fun m hm => ?_⟩
  have e : Ex H1 (upd (upd (upd (upd H1 pD (.lst [.int d])) r (.lst (nums ps ++ [.int d]))) q (.lst ((Lm.srt (ps.map (fun p : Nat => (p : Int)) ++ [d])).map V.int))) m (.lst (cutV ((Lm.srt (ps.map (fun p : Nat => (p : Int)) ++ [d])).map V.int) none (some 30)))) :=
    (((Ex.new hD).trans (Ex.new hr)).trans (Ex.new hn')).trans (Ex.new hm)
  refine k m qs _ ?_ hQ hsub (c1.trans (Ch.of e)) (S1.ex e)
  rw [upd_same, hqs, List.map_take]
  exact congrArg (fun l => some (HO.lst l)) (cut_to _ 30)
section
variable {P : Program} {w : World} {K : PySem.W.Frag} {mg : Str → Option Value} {base : Heap}
def spRight : Sp := fun vs H Q _ => ∃ (s a b : Addr) (n : Nat) (o : List Int) (ps : List Nat), vs = [.ref s, .ref a, .ref b] ∧ Src H s n ∧ n ≤ 100000 ∧ H a = some (.lst (o.map V.int)) ∧ H b = some (.lst (nums ps)) ∧ Lm.IsOrd o ∧ Lm.IsPolls o ps ∧ a ≠ s ∧ b ≠ s ∧
  ∀ H', Ch [s] H H' → Src H' s (n + 1) → Q (.bl true) H'
def nmRight : List Str := ["_law_source_here", "_law_order_here", "_law_polls_here", "_law_lost", "_law_lists", "_law_walked", "_law_ends", "_law_returned", "_law_cursor", "_law_rows", "_law_pair", "_law_due", "_law_row", "_law_state", "_law_more"]
theorem sc_right : FnScope nmRight ["_law_source_here", "_law_order_here", "_law_polls_here"] (defScope Lh.s_law_right) := ⟨rfl, rfl, rfl, by decide +kernel, rfl, by decide +kernel, by decide +kernel⟩
theorem ok_right (T : Facts K mg) : Def P w K mg base "_law_right" 9 ["_law_source_here", "_law_order_here", "_law_polls_here"] [] spRight := by
  obtain ⟨fd, F⟩ := T.fn 42
  refine ⟨⟨fd, [], go F sc_right ?_ fun cdv A outer s H vs Q E hr h => ?_, F.bindsN fun _ _ _ _ _ _ us hl => match us, hl with | [_, _, _], _ => rfl, .nil⟩, T.glo 29, F.kp⟩
  · rintro vs H Q E ⟨s, a, b, n, o, ps, rfl, _⟩
    rfl
  obtain ⟨s, a, b, n, o, ps, rfl, hS, hn, ha, hb, hO, hP, has, hbs, k⟩ := h
  have nd := sc_right.nd
  have hu := hu_of hr
  obtain ⟨fdW, FW, bW, kW⟩ := ok_walk (P := P) (w := w) (K := K) (mg := mg) (base := base) T
  refine ⟨_, pss_cons (ps_set (i := 3) nd rfl (Or.inl rfl) (pe_def (ok_lost_ids T) (hr.mono (by decide)) (pa_cons (pv 1) (pa_cons (pv 2) pa_nil))))
    (pss_cons (ps_if (PW.pt (pw_or (pt_cmpR (op_neD hr.units) (pv 3) (pe_def (ok_union T) (hr.mono (by decide)) (pa_cons (pv 1) (pa_cons (pv 2) pa_nil))) (nomark _)) (pw_or1 (pt_cmpR (op_neD hr.units) (pv 3) (pe_def (ok_in_danger T) (hr.mono (by decide)) (pa_cons (pv 1) (pa_cons (pv 2) pa_nil))) (nomark _))))) (pss_one (ps_ret pe_bl)) pss_nil)
    (pss_cons (ps_par3 (i := 4) (j := 5) (l := 6) rfl nd rfl rfl rfl (by decide) (by decide) (by decide) rfl rfl rfl (pa_cons (pe_def (ok_read T) (hr.mono (by decide)) (pa_cons (pv 1) (pa_cons (pv 2) pa_nil))) (pa_cons (pe_listG (pgen_call (E := E0) FW (hr.mono (by decide)) rfl (T.glo 22) kW bW .nil (pa_cons (pv 1) (pa_cons (pv 2) pa_nil))) passW noStop0 hr rfl T.n_list boot_list)
        (pa_cons (pe_def (ok_states T) (hr.mono (by decide)) (pa_cons (pv 1) (pa_cons (pv 2) pa_nil))) pa_nil))) rfl)
    (pss_cons (ps_par (i := 7) (j := 8) rfl nd rfl rfl (by decide) rfl rfl (pa_cons (pe_lst pa_nil) (pa_cons pe_int pa_nil)) rfl)
    (pss_cons (ps_for PassesOwn.never rfl (pi_zip rfl T.n_zip (pa_cons (pv 4) (pa_cons (pv 5) pa_nil))) (pg_tup rfl (pgs_cons (pg_name (i := 9) nd rfl (Or.inl rfl)) (pgs_cons (pg_name (i := 10) nd rfl (Or.inl rfl)) pgs_nil)))
      (pss_cons (ps_set (i := 8) nd rfl (Or.inl rfl) (pe_callB (cr_max rfl) rfl T.n_max boot_max (pa_cons (pe_op op_cat (pe_lst (pa_cons (pv 8) pa_nil)) (pv 9)) pa_nil)))
      (pss_cons (ps_expr (pe_bm PySem.F.plainAttrs_list PySem.F.slot_list_extend PySem.F.type_list_extend mt_extend (pv 7) (pa_cons (pv 9) pa_nil)))
      (pss_one (ps_if (pt_cmpR (op_neD hr.units) (pv 10) (pe_tup (pa_cons (pv 9) (pa_cons (pv 8) pa_nil))) (nomark _)) (pss_one (ps_ret pe_bl)) pss_nil)))))
    (pss_cons (ps_if (PW.pt (pw_or (pt_cmpR op_ne (pe_callB call_len_seq rfl T.n_len boot_len (pa_cons (pv 4) pa_nil)) (pe_callB call_len_seq rfl T.n_len boot_len (pa_cons (pv 2) pa_nil)) (nomark _)) (pw_or1 (pt_cmpR op_ne (pe_callB call_len_seq rfl T.n_len boot_len (pa_cons (pv 5) pa_nil)) (pe_callB call_len_seq rfl T.n_len boot_len (pa_cons (pv 2) pa_nil)) (nomark _))))) (pss_one (ps_ret pe_bl)) pss_nil)
    (pss_cons (ps_set (i := 11) nd rfl (Or.inl rfl) (pe_lst pa_nil))
    (pss_cons (ps_for PassesOwn.never rfl (pi_list (pe_callB cr_sortedI rfl T.n_sorted boot_sorted (pa_cons (pv 1) pa_nil))) (pg_name (i := 12) nd rfl (Or.inl rfl))
      (pss_cons (ps_set (i := 13) nd rfl (Or.inl rfl) (pe_ifExp (pt_cmpR op_in_seq (pv 12) (pv 7) rfl) pe_str (pe_ix ix_list (pe_lst (pa_cons pe_str (pa_cons pe_str pa_nil))) (pe_callTy call_int1 rfl T.n_int boot_int (pa_cons (pe_cmpR op_lt (pv 12) (pv 8) (nomark _)) pa_nil)) (fun _ _ => rfl))))
      (pss_one (ps_expr (pe_bm PySem.F.plainAttrs_list PySem.F.slot_list_append PySem.F.type_list_append mt_append (pv 11) (pa_cons (pe_tup (pa_cons (pv 12) (pa_cons (pv 13) pa_nil))) pa_nil))))))
    (pss_cons (ps_if (PW.pt (pw_or (pt_cmpR (op_ne_dictA (Nat.lt_of_le_of_lt (Nat.le_add_right _ 64) hr.units)) (pv 6) (pe_callTy (call_dictP rfl) rfl T.n_dict boot_dict (pa_cons (pv 11) pa_nil)) (nomark _)) (pw_or1 (pt_cmpR (op_neD hr.units) (pv 3)
        (pe_lc (own := [("_law_row", 12), ("_law_state", 13)]) (g := gTup K 2 (gCons (gName 12) (gCons (gName 13) gNil))) rfl nd (pi_list (pv 11)) (blkOk_by (own := [("_law_row", 12), ("_law_state", 13)]) (N := nmRight) (sc := defScope Lh.s_law_right) (by decide +kernel))
          (fun _ _ _ _ _ => pg_tup rfl (pgs_cons (pg_name (i := 12) nd rfl (Or.inl rfl)) (pgs_cons (pg_name (i := 13) nd rfl (Or.inl rfl)) pgs_nil))) (fun _ _ _ _ _ => pts_one (pt_cmpR op_eq (pv 13) pe_str (nomark _))) (fun _ _ _ _ _ => pv 12)) (nomark _))))) (pss_one (ps_ret pe_bl)) pss_nil)
    (pss_cons (ps_set (i := 14) nd rfl (Or.inr rfl) (pe_slice sl_list (pe_callB cr_sortedI rfl T.n_sorted boot_sorted (pa_cons (pe_op op_cat (pv 2) (pe_lst (pa_cons (pe_def (ok_draw T) (hr.mono (by decide)) (pa_cons (pv 0) (pa_cons (pe_op op_add (pe_callB call_len_seq rfl T.n_len boot_len (pa_cons (pv 1) pa_nil)) pe_int) pa_nil))) pa_nil))) pa_nil)) po_none (po_some pe_int)))
    (pss_one (ps_ret (pe_or (pe_cmpR op_eq (pe_callB call_len_seq rfl T.n_len boot_len (pa_cons (pv 2) pa_nil)) pe_int (nomark _)) (pe_one (pe_cmpR (op_eqD hr.units)
      (pe_lc (own := [("_law_row", 12)]) (g := gName 12) rfl nd (pi_list (pv 3)) (blkOk_by (own := [("_law_row", 12)]) (N := nmRight) (sc := defScope Lh.s_law_right) (by decide +kernel)) (fun _ _ _ _ _ => pg_name (i := 12) nd rfl (Or.inl rfl))
        (fun _ _ _ _ _ => pts_one (pt_cmpR (op_notInK (K := K)) (pv 12) (pe_def (ok_lost_ids T) (hr.mono (by decide)) (pa_cons (pv 1) (pa_cons (pv 14) pa_nil))) rfl)) (fun _ _ _ _ _ => pv 12)) (pe_lst pa_nil) (nomark _))))))))))))))), ?_⟩
  have R : RdA K H a b o ps := ⟨SqL.of ha, SqL.of hb, hO, hP⟩
  have hol := hO.len
  have hpl := hP.len
  -- lost
  refine q_asgL (xs := (Lm.lostL o ps).map V.int) (el_spL (dvs := kw5) (ea_cons (ev_var (v := .ref a) rfl) (ea_cons (ev_var (v := .ref b) rfl) ea_nil)) rfl fun H1 e => ⟨a, b, o, ps, rfl, R.ex e, rfl⟩) fun pL H1 hL e1 h1 => ?_
  have R1 := R.ex e1
  refine q_when (b := false) (et_or (a := false) (b := false) (et_is (et_test (ev_opL (ev_var (v := .ref pL) rfl) (el_spL (ea_cons (ev_var (v := .ref a) rfl) (ea_cons (ev_var (v := .ref b) rfl) ea_nil)) rfl fun H2 e => ⟨a, b, o, ps, rfl, R1.ex e, rfl⟩) fun q H2 h2 e2 => rv_neInts (SqL.of (e2 _ _ h1)) (SqL.of h2))) (by rw [decide_eq_true rfl]; rfl)) fun _ =>
    et_is (et_test (ev_opL (ev_var (v := .ref pL) rfl) (el_spL (ea_cons (ev_var (v := .ref a) rfl) (ea_cons (ev_var (v := .ref b) rfl) ea_nil)) rfl fun H2 e => ⟨a, b, o, ps, rfl, R1.ex e, rfl⟩) fun q H2 h2 e2 => rv_neInts (SqL.of (e2 _ _ h1)) (SqL.of h2))) (by rw [decide_eq_true rfl]; rfl)) (fun h => by cases h) fun _ H2 e2 => ?_
  have e12 := e1.trans e2
  -- lists, walked, ends
  refine q_par3 (cons_in (call_in ?_))
  refine (ea_cons (ev_var (v := .ref a) (i := 1) rfl) (ea_cons (ev_var (v := .ref b) (i := 2) rfl) ea_nil) : EvA _ (start nmRight [.ref s, .ref a, .ref b] |>.set 3 (some (.ref pL))) H2 [.ref a, .ref b]) H2 (Ex.refl _) _ fun H3 e3 => ?_
  have e13 := e12.trans e3
  refine ⟨rfl, _, ⟨a, b, o, ps, rfl, (R.ex e13).so, (R.ex e13).sp, hO, hP, rfl⟩, fun pR H4 hR4 e4 hLL => ?_⟩
  have e14 := e13.trans e4
  refine cons_in (listG_in ?_)
  refine (ea_cons (ev_var (v := .ref a) (i := 1) rfl) (ea_cons (ev_var (v := .ref b) (i := 2) rfl) ea_nil) : EvA _ (start nmRight [.ref s, .ref a, .ref b] |>.set 3 (some (.ref pL))) H4 [.ref a, .ref b]) H4 (Ex.refl _) _ fun H5 e5 => ?_
  have e15 := e14.trans e5
  refine ⟨a, b, o, ps, rfl, R.ex e15, fun ys H6 e6 hW pW hpW => ?_⟩
  have e16 := e15.trans e6
  refine cons_in (call_in ?_)
  refine (ea_cons (ev_var (v := .ref a) (i := 1) rfl) (ea_cons (ev_var (v := .ref b) (i := 2) rfl) ea_nil) : EvA _ (start nmRight [.ref s, .ref a, .ref b] |>.set 3 (some (.ref pL))) (upd H6 pW (.lst ys)) [.ref a, .ref b]) _ (Ex.refl _) _ fun H7 e7 => ?_
  have e17 := (e16.trans (Ex.new hpW)).trans e7
  refine ⟨rfl, _, ⟨a, b, o, ps, rfl, R.ex e17, rfl⟩, fun pE H8 hE e8 h8 => ⟨_, _, _, rfl, ?_⟩⟩
  have e18 := e17.trans e8
  have e48 : Ex H4 H8 := (((e5.trans e6).trans (Ex.new hpW)).trans e7).trans e8
  have e28 : Ex H1 H8 := ((e2.trans e3).trans e4).trans e48
  have hLL8 := hLL.ex e48
  have hW8 : H8 pW = some (.lst ys) := (e7.trans e8) _ _ upd_same
  have hWO := hW.ex (((Ex.new hpW).trans e7).trans e8)
  have h18 := e28 _ _ h1
  obtain ⟨as, hR8, hRows⟩ := hLL8
  have hal : as.length = ps.length := by rw [hRows.len, Lm.rd_len]
  -- returned, cursor
  refine q_par2 (cons_in ⟨Nat.zero_le _, fun pT hT => ⟨_, _, rfl, ?_⟩⟩)
  have hT0 : H pT = none := fresh_back e18 hT
  have e8T : Ex H8 (upd H8 pT (.lst [])) := Ex.new hT
  have hRl : (Lm.rd o 0 ps).length = ps.length := Lm.rd_len o ps 0
  have hfl := Lm.rd_flat_len hO.nd ps 0
  refine q_forZ (p := pR) (q := pW) (xs := as.map V.ref) (ys := ys) (n := ps.length) rfl rfl (e8T _ _ hR8) (e8T _ _ hW8) (by rw [List.length_map, hal, hWO.1, Nat.min_self])
    (fun i σ' H' => ∃ v9 v10, Ex H8 H' ∧ H' pT = some (.lst ((((Lm.rd o 0 ps).take i).flatten).map V.int)) ∧ σ' = [some (.ref s), some (.ref a), some (.ref b), some (.ref pL), some (.ref pR), some (.ref pW), some (.ref pE), some (.ref pT), some (.int (Lm.cur o 0 (ps.take i))), v9, v10, none, none, none, none])
    ⟨none, none, e8T, upd_same, rfl⟩ (fun i σ' H' ⟨v9, v10, e, _⟩ => ⟨e _ _ hR8, e _ _ hW8⟩) ?_ ?_
  · rintro i Tt x y σ' H' hx hy ⟨v9, v10, e, hret, rfl⟩ hTt
    rw [List.getElem?_map] at hx
    cases hai : as[i]? with
    | none => rw [hai] at hx; cases hx
    | some ar =>
      rw [hai] at hx
      have hx2 : V.ref ar = x := Option.some.inj hx
      subst hx2
      obtain ⟨rs, hrs, hrow⟩ := hRows.get hai
      have hil : i < ps.length := by rw [← hRl]; exact (List.getElem?_eq_some_iff.mp hrs).1
      obtain ⟨T2, r2, rs2, g1, g2, g3, g4⟩ := hWO.2 i hil
      rw [hrs] at g3
      have g3 : rs = rs2 := Option.some.inj g3
      subst g3
      rw [hy] at g1
      have g1 : y = .ref T2 := Option.some.inj g1
      subst g1
      obtain ⟨hrl, hcur⟩ := rd_get hrs
      have eT : Ex H8 (upd H' Tt (.tup [.ref ar, .ref T2])) := e.trans (Ex.new hTt)
      have hretT : upd H' Tt (.tup [.ref ar, .ref T2]) pT = some (.lst ((((Lm.rd o 0 ps).take i).flatten).map V.int)) := Ex.new hTt _ _ hret
      refine g_pair upd_same ?_
      refine q_asg (v := .int (Lm.cur o 0 (ps.take (i + 1)))) ?_ fun H9 e9 => ?_
      · rw [hcur]
        exact ev_maxL (c := Lm.cur o 0 (ps.take i)) (ns := rs) (el_cat (xs := [.int (Lm.cur o 0 (ps.take i))]) (el_lst (ea_cons (ev_var rfl) ea_nil) (by show 1 ≤ 100000; decide)) (ev_var rfl) (eT _ _ hrow) (by rw [List.length_map]; show 1 + _ ≤ _; omega))
      have hsub := (flat_sub hrs 0).length_le
      rw [List.take_zero, List.append_nil] at hsub
      refine q_ext (l := pT) (b := ar) (ev_var (v := .ref pT) rfl) (ev_var (v := .ref ar) rfl) (e9 _ _ hretT) ((eT.trans e9) _ _ hrow) (by rw [List.length_map, List.length_map]; omega) fun H10 e10 => ?_
      have e8' : Ex H8 (upd H10 pT (.lst (((((Lm.rd o 0 ps).take i).flatten).map V.int) ++ rs.map V.int))) := Ex.mut ((eT.trans e9).trans e10) hT
      refine s_when (b := false) (et_test (ev_opU (ev_var (v := .ref T2) rfl) (eu_tup (ea_cons (ev_var (v := .ref ar) rfl) (ea_cons (ev_var (v := .int (Lm.cur o 0 (ps.take (i + 1)))) rfl) ea_nil)) (by show 2 ≤ 100000; decide)) fun q H11 h11 e11 => rv_val fun H12 e12 Q' k' =>
        ⟨_, _, dp_pair (SqT.of (((e8'.trans e11).trans e12) _ _ g2)) (SqL.of (((e8'.trans e11).trans e12) _ _ g4)), dp_pair (SqT.of (e12 _ _ h11)) (SqL.of (((e8'.trans e11).trans e12) _ _ hrow)), shaped_pair _ _, shaped_pair _ _, by rw [eqv_pair]; exact k'⟩)) (fun h => by cases h) fun _ H11 e11 => ?_
      refine ⟨_, _, e8'.trans e11, e11 _ _ ?_, rfl⟩
      rw [upd_same, flat_take hrs, List.map_append]
  rintro σ' H9 ⟨v9, v10, e9, hret, rfl⟩
  rw [List.take_of_length_le (by rw [hRl]; exact Nat.le_refl _)] at hret
  rw [List.take_length]
  have e1_9 : Ex H1 H9 := e28.trans e9
  have e0_9 : Ex H H9 := e18.trans e9
  -- the lengths
  refine q_when (b := false) (et_or (a := false) (b := false) (et_is (et_test (ev_op (ev_len' (ev_var (v := .ref pR) rfl) (SqL.of (e9 _ _ hR8))) (ev_len' (ev_var (v := .ref b) rfl) (SqL.of (e0_9 _ _ hb))) (rv_ne rfl))) (by rw [List.length_map, hal, nums_len, decide_eq_true rfl]; rfl)) fun _ =>
    et_is (et_test (ev_op (ev_len' (ev_var (v := .ref pW) rfl) (SqL.of (e9 _ _ hW8))) (ev_len' (ev_var (v := .ref b) rfl) (SqL.of (e0_9 _ _ hb))) (rv_ne rfl))) (by rw [hWO.1, nums_len, decide_eq_true rfl]; rfl)) (fun h => by cases h) fun _ H10 e10 => ?_
  have e0_10 := e0_9.trans e10
  have e1_10 := e1_9.trans e10
  have hret10 := e10 _ _ hret
  have hE10 : H10 pE = some (.dK (endKV o ps)) := (e9.trans e10) _ _ h8
  have hL10 := e1_10 _ _ h1
  generalize hRR : (Lm.rd o 0 ps).flatten = RR at *
  generalize hCC : Lm.cur o 0 ps = CC at *
  -- due
  refine q_asgL (xs := []) (el_lst ea_nil (by decide)) fun pD H11 hD e11 h11 => ?_
  refine q_forNLn (xs := (Lm.srt o).map V.int) (el_sorted (ev_var (v := .ref a) rfl) (SqL.of ((e0_10.trans e11) _ _ ha)))
    (fun q j σ' H' => q ≠ pD ∧ H' q = some (.lst ((Lm.srt o).map V.int)) ∧ ∃ G ts v12 v13, Ex H10 G ∧ Ex G H' ∧ G pD = none ∧ H' pD = some (.lst (ts.map V.ref)) ∧ Paired (fun t kv => G t = some (.tup [kV kv.1, kv.2])) ts (((Lm.srt o).take j).map (stKV RR CC)) ∧
      σ' = [some (.ref s), some (.ref a), some (.ref b), some (.ref pL), some (.ref pR), some (.ref pW), some (.ref pE), some (.ref pT), some (.int CC), v9, v10, some (.ref pD), v12, v13, none]) ?_ (fun q j σ' H' _ h => SqL.of h.2.1) ?_ ?_
  · intro q H12 hq e12 h12
    exact ⟨(fun z => by rw [z, h11] at hq; cases hq), h12, H10, [], none, none, Ex.refl _, e11.trans e12, hD, e12 _ _ h11, .nil, rfl⟩
  · rintro q j x σ' H' hj ⟨hqD, hq, G, ts, v12, v13, eG, eG', hGD, hDl, hPr, rfl⟩
    obtain ⟨m, hmj, rfl⟩ := ints_get hj
    have htk : (Lm.srt o).take (j + 1) = (Lm.srt o).take j ++ [m] := by rw [List.take_add_one, hmj]; rfl
    have hjl := (List.getElem?_eq_some_iff.mp hmj).1
    rw [Lm.srt_len] at hjl
    have e10' := eG.trans eG'
    refine q_asg (v := stV (Lm.stt RR CC m)) (ev_if (b := decide (m ∈ RR)) (et_is (et_test (ev_op (ev_var (v := .int m) rfl) (ev_var (v := .ref pT) rfl) (rv_isL (SqL.of (e10' _ _ hret10)) rfl (flat_ints RR)))) (by rw [inV_int])) (fun hb => ev_to (ev_c (v := .str "read")) ?_) fun hb => ?_) fun H12 e12 => ?_
    · unfold Lm.stt
      rw [if_pos (of_decide_eq_true hb)]
      rfl
    · refine ev_opL1 (xs := [.str "open", .str "lost"]) (el_lst (ea_cons ev_c (ea_cons ev_c ea_nil)) (by show 2 ≤ 100000; decide)) (fun H13 e13 => ev_int1 (b := decide (m < CC)) (ev_op (ev_var (v := .int m) rfl) (ev_var (v := .int CC) rfl) rv_I0)) fun q H13 h13 e13 => rv_ixL (SqL.of h13) ?_
      unfold Lm.stt
      rw [if_neg (of_decide_eq_false hb)]
      by_cases hlt : m < CC
      · rw [decide_eq_true hlt, if_pos rfl, if_pos hlt]
        rfl
      · rw [decide_eq_false hlt, if_neg Bool.false_ne_true, if_neg hlt]
        rfl
    · have htl : ts.length = j := by
        have := Paired.length hPr
        rw [List.length_map, List.length_take, Lm.srt_len] at this
        omega
      refine s_appU (l := pD) (ys := [.int m, stV (Lm.stt RR CC m)]) (e12 _ _ hDl) (ev_var (v := .ref pD) rfl) (eu_tup (ea_cons (ev_var (v := .int m) rfl) (ea_cons (ev_var (v := stV (Lm.stt RR CC m)) rfl) ea_nil)) (by show 2 ≤ 100000; decide)) (by rw [List.length_map]; omega) fun t H13 ht e13 h13 => ?_
      have htD : t ≠ pD := fun z => by rw [z, e12 _ _ hDl] at ht; cases ht
      have hGt : G t = none := fresh_back (eG'.trans e12) ht
      refine ⟨hqD, by rw [upd_ne hqD]; exact (e12.trans e13) _ _ hq, upd G t (.tup [.int m, stV (Lm.stt RR CC m)]), ts ++ [t], _, _, Ex.mut eG (fresh_back eG hGt), ex_add (Ex.mut ((eG'.trans e12).trans e13) hGD) (by rw [upd_ne htD]; exact h13), by rw [upd_ne htD.symm]; exact hGD, by rw [upd_same, List.map_append]; rfl, ?_, rfl⟩
      rw [htk, List.map_append]
      exact paired_snoc (Paired.mapP hPr fun t kv h => Ex.new hGt _ _ h) upd_same
  rintro q σ' H12 ⟨hqD, hq, G, ts, v12, v13, eG, eG', hGD, hDl, hPr, rfl⟩
  rw [List.length_map, List.take_length] at hPr
  have hPr12 : Paired (fun t kv => H12 t = some (.tup [kV kv.1, kv.2])) ts ((Lm.srt o).map (stKV RR CC)) := Paired.mapP hPr fun t kv h => eG' _ _ h
  have e10_12 := eG.trans eG'
  have hE12 := e10_12 _ _ hE10
  have hL12 := e10_12 _ _ hL10
  have hek : endKV o ps = (Lm.srt o).map (stKV RR CC) := by
    unfold endKV
    rw [hRR, hCC]
  have hndk : ((endKV o ps).map (·.1)).Nodup := by
    unfold endKV
    rw [List.map_map]
    exact inl_nodup (Lm.srt_nodup hO.nd)
  have hmk : mergeK [] (endKV o ps) = endKV o ps := by
    rw [mergeK_new _ _ (fun p hp q hq => absurd hq List.not_mem_nil) hndk, List.nil_append]
  have hlostF : ((Lm.srt o).filter fun x => decide (Lm.stt RR CC x = .lost)) = Lm.lostL o ps := by rw [← hRR, ← hCC, Lm.lost_by_states hO hP]
  refine q_when (b := false) (et_or (a := false) (b := false) (et_test (ev_opN (ev_var (v := .ref pE) rfl) (en_dictP (ev_var (v := .ref pD) rfl) hDl hPr12) fun p H13 h13 e13 => rv_val fun H14 e14 Q' k' =>
      ⟨pE, p, endKV o ps, endKV o ps, rfl, rfl, (e13.trans e14) _ _ hE12, by rw [← hek, hmk] at h13; exact e14 _ _ h13, rfl, fun kv hkv => ⟨val_nodup hndk kv hkv, ?_⟩, k'⟩)) fun _ =>
    et_is (et_test (ev_opL (ev_var (v := .ref pL) rfl) (el_due hDl hPr12 (by rw [Lm.srt_len]; exact hol)) fun q H13 h13 e13 => rv_neInts (SqL.of (e13 _ _ hL12)) (SqL.of h13))) (by rw [hlostF, decide_eq_true rfl]; rfl)) (fun h => by cases h) fun _ H13 e13 => ?_
  · unfold endKV at hkv
    obtain ⟨x, _, rfl⟩ := List.mem_map.mp hkv
    show flatB (stV _) = true
    cases Lm.stt (Lm.rd o 0 ps).flatten (Lm.cur o 0 ps) x <;> rfl
  have e0_13 := (e0_10.trans e10_12).trans e13
  have hL13 := e13 _ _ hL12
  have hpLs : pL ≠ s := fun z => by
    obtain ⟨i0, i1, i2, g, _⟩ := hS
    rw [z, g] at hL
    cases hL
  refine q_asgE (e_more (a := a) (b := b) rfl rfl rfl (hS.ex e0_13) hn (e0_13 _ _ ha) (e0_13 _ _ hb) hO hP hbs fun pM qs H14 hM hQ hsub c14 S14 => ?_)
  have ha14 := c14 _ _ (e0_13 _ _ ha) (by simpa using has)
  have hb14 := c14 _ _ (e0_13 _ _ hb) (by simpa using hbs)
  have hL14 := c14 _ _ hL13 (by simpa using hpLs)
  have c0 : Ch [s] H H14 := (Ch.of e0_13).trans c14
  have hll := Lm.lostL_len o ps
  by_cases h30 : ps.length = 30
  · refine s_ret (v := .bl true) (ev_orV (a := true) (b := true) (ev_bl (ev_op (ev_len' (ev_var (v := .ref b) rfl) (SqL.of hb14)) (ev_c (v := .int 30)) (rv_eq rfl)) (by rw [nums_len, h30]; rfl)) fun h => by cases h) fun H15 e15 => ?_
    exact k H15 (c0.trans (Ch.of e15)) (S14.ex e15)
  · have hnil : ((Lm.lostL o ps).filter fun x => !decide (x ∈ Lm.lostL o qs)) = [] := by
      rw [List.filter_eq_nil_iff]
      intro x hx
      rw [decide_eq_true (Lm.more_lost (hsub (by omega)) hx)]
      exact fun h => by cases h
    refine s_ret (v := .bl true) (ev_orV (a := false) (b := true) (ev_bl (ev_op (ev_len' (ev_var (v := .ref b) rfl) (SqL.of hb14)) (ev_c (v := .int 30)) (rv_eq rfl)) (by rw [nums_len]; exact decide_eq_false fun z => h30 (by injection z with z; omega))) fun _ =>
      ev_bl (ev_opLL (el_flt (em := V.int) (xs := Lm.lostL o ps) (fun x => !decide (x ∈ Lm.lostL o qs)) (ev_var (v := .ref pL) rfl) (SqL.of hL14) (by omega) (fun x => rfl) (fun x => rfl) fun x hx H15 e15 =>
        et_is (et_test (ev_opL (ev_var (v := .int x) rfl) (el_spL (dvs := kw5) (ea_cons (ev_var (v := .ref a) rfl) (ea_cons (ev_var (v := .ref pM) rfl) ea_nil)) rfl fun H16 e16 => ⟨a, pM, o, qs, rfl, ⟨SqL.of ((e15.trans e16) _ _ ha14), SqL.of ((e15.trans e16) _ _ hM), hO, hQ⟩, rfl⟩) fun q H16 h16 e16 => rv_niL (SqL.of h16) rfl (flat_ints _))) (by rw [inV_int]))
        (el_lst ea_nil (by decide)) fun p q H15 hp hq e15 => rv_eqInts (ms := []) (SqL.of hp) (SqL.of hq)) (by rw [hnil]; rfl)) fun H15 e15 => ?_
    exact k H15 (c0.trans (Ch.of e15)) (S14.ex e15)
end
end Lp

/-! ## V20 -/
set_option Elab.async false
set_option linter.all false
set_option maxRecDepth 100000
set_option maxHeartbeats 4000000
/-! The law's LiveTable: its states in plain words. -/
namespace Lp
open PySem PySem.Spec PyProof.Rows L2 Evl
/-- what the table holds ahead of the m-th commit, behind some polls -/
structure SI (o : List Int) (dn : List Nat) (m : Nat) (s : SS) : Prop where
  ord : s.ord = (o.take m).map (Lm.rki o)
  opl : s.op.length ≤ 30
  op : ∀ j x, m ≤ j → o[j]? = some x → Lm.rki o x ∈ s.op
  ids : s.ids = ((Lm.rd o 0 dn).flatten).map (Lm.rki o)
  cu : s.cu = Lm.rki o (Lm.cur o 0 dn)
  rdn : s.rd = none ↔ dn = []
  ev : s.ev ≤ o.length + m
theorem SI.bd {o : List Int} {dn : List Nat} {m : Nat} {s : SS} (h : SI o dn m s) (hO : Lm.IsOrd o) (hm : m ≤ 31) : Bd s := by
  have hol := hO.len
  refine ⟨by have := h.opl; omega, ?_, fun q hq => ?_, by have := h.ev; omega⟩
  · rw [h.ord, List.length_map, List.length_take]
    omega
  · have e : q.1 = s.ids := by unfold SS.ids; rw [hq]; rfl
    rw [e, h.ids, List.length_map]
    have := Lm.rd_flat_len hO.nd dn 0
    omega
theorem SI.got {o : List Int} {dn : List Nat} {m : Nat} {s : SS} (h : SI o dn m s) : gotL s = (Lm.rows o (Lm.cur o 0 dn) m).map (Lm.rki o) := by
  unfold gotL
  rw [h.ord, h.cu, Lm.rows_rki]
theorem rd_snoc (o : List Int) (dn : List Nat) (m : Nat) : Lm.rd o 0 (dn ++ [m]) = Lm.rd o 0 dn ++ [Lm.rows o (Lm.cur o 0 dn) m] := by
  rw [Lm.rd_append]
  rfl
theorem cur_snoc (o : List Int) (dn : List Nat) (m : Nat) : Lm.cur o 0 (dn ++ [m]) = Lm.mxl (Lm.cur o 0 dn) (Lm.rows o (Lm.cur o 0 dn) m) := by
  rw [Lm.cur_append]
  rfl
theorem SI.pol {o : List Int} {dn : List Nat} {m : Nat} {s : SS} (h : SI o dn m s) : SI o (dn ++ [m]) m (step s .pol) := by
  refine ⟨h.ord, h.opl, h.op, ?_, ?_, ⟨(fun z => by cases z), fun z => absurd z (by simp)⟩, h.ev⟩
  · show s.ids ++ gotL s = _
    rw [h.ids, h.got, rd_snoc, List.flatten_append, List.map_append, List.flatten_singleton]
  · show Lm.mxl s.cu (gotL s) = _
    rw [h.cu, h.got, Lm.mxl_rki, cur_snoc]
theorem rki_inj {o : List Int} {x y : Int} (hx : x ∈ o) (hy : y ∈ o) (h : Lm.rki o x = Lm.rki o y) : x = y := Lm.rk_inj hx hy (by unfold Lm.rki at h; omega)
theorem SI.com {o : List Int} {dn : List Nat} {m : Nat} {s : SS} {x : Int} (h : SI o dn m s) (hO : Lm.IsOrd o) (hx : o[m]? = some x) : SI o dn (m + 1) (step s (.com (Lm.rki o x))) := by
  refine ⟨?_, ?_, fun j y hj hy => ?_, h.ids, h.cu, h.rdn, ?_⟩
  · show s.ord ++ [Lm.rki o x] = _
    rw [h.ord, List.take_add_one, hx, List.map_append]
    rfl
  · exact Nat.le_trans (List.length_filter_le _ _) h.opl
  · show Lm.rki o y ∈ s.op.filter fun z => decide (z ≠ Lm.rki o x)
    refine List.mem_filter.mpr ⟨h.op j y (by omega) hy, decide_eq_true fun e => ?_⟩
    have exy := rki_inj (List.mem_of_getElem? hy) (List.mem_of_getElem? hx) e
    obtain ⟨h1, e1⟩ := List.getElem?_eq_some_iff.mp hy
    obtain ⟨h2, e2⟩ := List.getElem?_eq_some_iff.mp hx
    have := (List.getElem_inj (h₀ := h1) (h₁ := h2) hO.nd).mp (by rw [e1, e2]; exact exy)
    omega
  · show s.ev + 1 ≤ _
    have := h.ev
    omega
theorem SI.stay {o : List Int} {dn : List Nat} {m : Nat} {s : SS} (h : SI o dn m s) (hm : o.length ≤ m) : SI o dn (m + 1) s := by
  refine ⟨?_, h.opl, fun j x hj hx => ?_, h.ids, h.cu, h.rdn, by have := h.ev; omega⟩
  · rw [h.ord, List.take_of_length_le hm, List.take_of_length_le (by omega)]
  · have := (List.getElem?_eq_some_iff.mp hx).1
    omega
theorem rki_pos {o : List Int} (hO : Lm.IsOrd o) {x : Int} (hx : x ∈ o) : 1 ≤ Lm.rki o x ∧ Lm.rki o x ≤ (o.length : Int) := by
  obtain ⟨i, hi⟩ := List.getElem?_of_mem (Lm.mem_srt.mpr hx)
  have h := Lm.rk_at hO.nd hi
  have hl := (List.getElem?_eq_some_iff.mp hi).1
  rw [Lm.srt_len] at hl
  unfold Lm.rki
  omega
/-- after the begins -/
def begun (n : Nat) : SS := ⟨(n : Int), (List.range n).map fun i : Nat => (i : Int) + 1, [], none, n⟩
theorem begun_step (n : Nat) : step (begun n) .beg = begun (n + 1) := by
  unfold step begun
  simp only [List.range_succ, List.map_append, List.map_cons, List.map_nil]
  congr 1
theorem begun_ok (n : Nat) : okE (begun n) .beg := by
  show ((n : Int) + 1) ∉ (List.range n).map fun i : Nat => (i : Int) + 1
  intro h
  obtain ⟨i, hi, e⟩ := List.mem_map.mp h
  have := List.mem_range.mp hi
  omega
theorem begun_si {o : List Int} (hO : Lm.IsOrd o) : SI o [] 0 (begun o.length) := by
  refine ⟨rfl, by show ((List.range o.length).map _).length ≤ 30; rw [List.length_map, List.length_range]; exact hO.len, fun j x _ hx => ?_, rfl, ?_, ⟨fun _ => rfl, fun _ => rfl⟩, Nat.le_refl _⟩
  · obtain ⟨h1, h2⟩ := rki_pos hO (List.mem_of_getElem? hx)
    refine List.mem_map.mpr ⟨(Lm.rki o x - 1).toNat, List.mem_range.mpr (by omega), by omega⟩
  · show (0 : Int) = Lm.rki o (Lm.cur o 0 [])
    unfold Lm.rki
    rw [show Lm.cur o 0 [] = 0 from rfl, Lm.rk_zero hO.pos]
    rfl
theorem filter_up : ∀ {ps : List Nat} (m : Nat), ps.Pairwise (· ≤ ·) → (ps.filter fun p => decide (p < m)) ++ (ps.filter fun p => decide (p = m)) = ps.filter fun p => decide (p < m + 1)
  | [], _, _ => rfl
  | x :: r, m, h => by
    rw [List.pairwise_cons] at h
    have ih := filter_up m h.2
    rcases Nat.lt_trichotomy x m with hx | hx | hx
    · rw [List.filter_cons, if_pos (decide_eq_true hx), List.filter_cons, if_neg (by simp; omega), List.filter_cons, if_pos (decide_eq_true (by omega)), List.cons_append, ih]
    · have e : (r.filter fun p => decide (p < m)) = [] := by
        rw [List.filter_eq_nil_iff]
        intro y hy
        have := h.1 y hy
        simp
        omega
      rw [e, List.nil_append] at ih
      rw [List.filter_cons, if_neg (by simp; omega), e, List.nil_append, List.filter_cons, if_pos (decide_eq_true hx), List.filter_cons, if_pos (decide_eq_true (by omega)), ih]
    · have e1 : (r.filter fun p => decide (p < m)) = [] := by
        rw [List.filter_eq_nil_iff]
        intro y hy
        have := h.1 y hy
        simp
        omega
      rw [e1, List.nil_append] at ih
      rw [List.filter_cons, if_neg (by simp; omega), e1, List.nil_append, List.filter_cons, if_neg (by simp; omega), List.filter_cons, if_neg (by simp; omega), ih]
theorem lost_live {o : List Int} {ps : List Nat} {m : Nat} {s : SS} (hO : Lm.IsOrd o) (hP : Lm.IsPolls o ps) (h : SI o ps m s) (hm : o.length ≤ m) : lostOf s = (Lm.lostL o ps).map (Lm.rki o) := by
  unfold lostOf
  cases hq : s.rd with
  | none =>
    have := h.rdn.mp hq
    rw [this, Lm.lostL_nil]
    rfl
  | some q =>
    obtain ⟨ids, c⟩ := q
    have e1 : s.ids = ids := by unfold SS.ids; rw [hq]; rfl
    have e2 : s.cu = c := by unfold SS.cu; rw [hq]; rfl
    show Lm.srt ((s.ord.filter fun x => decide (x < c)).filter fun x => !decide (x ∈ ids)) = _
    rw [← e1, ← e2, h.ord, h.ids, h.cu, List.take_of_length_le hm]
    exact Lm.live_lost hO hP
end Lp

/-! ## V21 -/
set_option Elab.async false
set_option linter.all false
set_option maxRecDepth 100000
set_option maxHeartbeats 8000000
/-! The law's LiveTable: the walk. -/
namespace Lp
open PySem PySem.Spec PyProof.Rows L2 Evl
def scRows : Scope := { kind := .function, names := [(".0", .local), ("_law_rows", .local), ("_law_ranks", .cell)], isGenerator := false, isCoroutine := false }
/-- an id with its rank -/
def rkKV (o : List Int) (x : Int) : Key × V := (Sum.inl x, .int (Lm.rki o x))
def rkD (o : List Int) : List (Key × V) := (Lm.srt o).map (rkKV o)
theorem rkD_nodup {o : List Int} (hO : Lm.IsOrd o) : ((rkD o).map (·.1)).Nodup := by
  unfold rkD
  rw [List.map_map]
  exact inl_nodup (Lm.srt_nodup hO.nd)
theorem rkD_get {o : List Int} (hO : Lm.IsOrd o) {x : Int} (hx : x ∈ o) : valV (rkD o) (Sum.inl x) = some (.int (Lm.rki o x)) :=
  val_nodup (rkD_nodup hO) (rkKV o x) (List.mem_map.mpr ⟨x, Lm.mem_srt.mpr hx, rfl⟩)
theorem e_ranks {K : PySem.W.Frag} {H : Hp} {Q : VK} {c1 c2 c3 c4 c5 c6 c7 c8 c9 c10 c11 : Option V} {a : Addr} {o : List Int} (hO : Lm.IsOrd o) (ha : H a = some (.lst (o.map V.int))) (k : ∀ p H', H p = none → Ex H H' → H' p = some (.dK (rkD o)) → Q (.ref p) H') :
    tCB (fun xs H Q => ∃ (a : Addr) (ps : List Addr) (kvs : List (Key × V)), xs = [.ref a] ∧ SqL K H a (ps.map V.ref) ∧ Paired (fun p kv => SqT K H p [kV kv.1, kv.2]) ps kvs ∧ ∀ p, H p = none → Q (.ref p) (upd H p (.dK (mergeK [] kvs))))
      (tCons (tLc (iEnum K (tCons (tCB (rSortedI K) (tCons (tVar 0) tNil)) tNil)) (gTup K 2 (gCons (gName 10) (gCons (gName 5) gNil))) tYes (tTup (tCons (tVar 5) (tCons (tOp (rI0 fun i j => .int (i + j)) (tVar 10) (tC (.int 1))) tNil))) [10, 5]) tNil) [some (.ref a), c1, c2, c3, c4, c5, c6, c7, c8, c9, c10, c11] H Q := by
  have hol := hO.len
  refine (el_sorted (ev_var (v := .ref a) (i := 0) rfl) (SqL.of ha) : EvL _ [some (.ref a), c1, c2, c3, c4, c5, c6, c7, c8, c9, c10, c11] H _) H (Ex.refl _) _ fun q H1 hq e1 h1 => ⟨q, _, rfl, SqL.of h1, fun D hD => ?_⟩
  refine lc_it (List.length_map V.int ▸ walk_enum (K := K) (a := q) (xs := (Lm.srt o).map V.int) : Walk _ (Lm.srt o).length _ _) (fun i H' => ∃ G ts, Ex H1 G ∧ Ex G H' ∧ G D = none ∧ H' D = some (.lst (ts.map V.ref)) ∧ Paired (fun t kv => G t = some (.tup [kV kv.1, kv.2])) ts (((Lm.srt o).take i).map (rkKV o)))
    ⟨H1, [], Ex.refl _, Ex.new hD, hD, upd_same, .nil⟩ (fun i H' _ ⟨G, ts, eG, eG', _⟩ => SqL.of ((eG.trans eG') _ _ h1)) ?_ ?_
  · rintro i v H' H'' hi ⟨G, ts, eG, eG', hGD, hDl, hPr⟩ ⟨Tt, x, y, rfl, hT, rfl, hx, hy⟩
    cases hx
    have hy : ((Lm.srt o).map V.int)[i]? = some y := hy
    rw [List.getElem?_map, List.getElem?_eq_getElem hi] at hy
    have hy2 : V.int (Lm.srt o)[i] = y := Option.some.inj hy
    subst hy2
    have hrk : Lm.rki o (Lm.srt o)[i] = (i : Int) + 1 := by
      unfold Lm.rki
      rw [Lm.rk_at hO.nd (List.getElem?_eq_getElem hi)]
      omega
    have htk : (Lm.srt o).take (i + 1) = (Lm.srt o).take i ++ [(Lm.srt o)[i]] := by rw [List.take_add_one, List.getElem?_eq_getElem hi]; rfl
    generalize (Lm.srt o)[i] = x at hrk htk ⊢
    have htl : ts.length ≤ 30 := by
      have := Paired.length hPr
      rw [List.length_map, List.length_take, Lm.srt_len] at this
      omega
    refine g_pair upd_same ⟨rfl, ?_⟩
    simp only [tYes, if_true]
    have eT : Ex H' (upd H' Tt (.tup [.int (i : Nat), .int x])) := Ex.new hT
    refine (eu_tup (ea_cons (ev_var (v := .int x) (i := 5) rfl) (ea_cons (ev_op (ev_var (v := .int (i : Int)) (i := 10) rfl) ev_c rv_I0) ea_nil)) (by show 2 ≤ 100000; decide) : EvU _ ((List.set (wipe [some (.ref a), c1, c2, c3, c4, c5, c6, c7, c8, c9, c10, c11] [10, 5]) 10 (some (.int (i : Nat)))).set 5 (some (.int x))) _ [.int x, .int ((i : Int) + 1)]) _ (Ex.refl _) _ fun t H4 ht e4 h4 => ?_
    have eG4 := (eG'.trans eT).trans e4
    have htD : t ≠ D := fun z => by rw [z, eT _ _ hDl] at ht; cases ht
    have hGt : G t = none := fresh_back (eG'.trans eT) ht
    refine ⟨_, (eT.trans e4) _ _ hDl, sz_lt (by rw [List.length_map]; omega), upd G t (.tup [.int x, .int ((i : Int) + 1)]), ts ++ [t], Ex.mut eG (fresh_back eG hGt), ex_add (Ex.mut eG4 hGD) (by rw [upd_ne htD]; exact h4), by rw [upd_ne htD.symm]; exact hGD, by rw [upd_same, List.map_append]; rfl, ?_⟩
    rw [htk, List.map_append]
    refine paired_snoc (Paired.mapP hPr fun t kv h => Ex.new hGt _ _ h) ?_
    rw [upd_same]
    show _ = some (HO.tup [.int x, .int (Lm.rki o x)])
    rw [hrk]
  · rintro H2 ⟨G, ts, eG, eG', hGD, hDl, hPr⟩
    rw [List.take_of_length_le (Nat.le_refl _)] at hPr
    have e2 := eG.trans eG'
    refine ⟨D, ts, rkD o, rfl, SqL.of hDl, Paired.mapP hPr fun t kv h => SqT.of (eG' _ _ h), fun p hp => ?_⟩
    have hmk : mergeK [] (rkD o) = rkD o := by
      rw [mergeK_new _ _ (fun p hp q hq => absurd hq List.not_mem_nil) (rkD_nodup hO), List.nil_append]
    rw [hmk]
    exact k p _ (fresh_back (e1.trans e2) hp) ((e1.trans e2).trans (Ex.new hp)) upd_same
/-- the table beside what is known -/
structure LvI (K : PySem.W.Frag) (G H : Hp) (t p pF : Addr) (y : SA) (s : SS) (n : Nat) : Prop where
  e : Ex G H
  gt : G t = none
  gp : G p = none
  gF : G pF = none
  tb : TbAt K H t p y s n
  tF : t ≠ pF
  pF' : p ≠ pF
  yF : pF ∉ y.own
theorem LvI.ex {K : PySem.W.Frag} {G H H' : Hp} {t p pF : Addr} {y : SA} {s : SS} {n : Nat} (e : Ex H H') (h : LvI K G H t p pF y s n) : LvI K G H' t p pF y s n := ⟨h.e.trans e, h.gt, h.gp, h.gF, h.tb.ex e, h.tF, h.pF', h.yF⟩
/-- behind a call -/
theorem LvI.call {K : PySem.W.Frag} {G H H' : Hp} {t p pF : Addr} {y z : SA} {s s' : SS} {n : Nat} {u : HO} (h : LvI K G H t p pF y s n) (hF : H pF = some u) (hz : ∀ a ∈ z.own, H a = none) (c : Ch [t, p] H H') (ht : TbAt K H' t p z s' (n + 1)) : LvI K G H' t p pF z s' (n + 1) ∧ H' pF = some u := by
  refine ⟨⟨ex_ch h.e c fun a ha => ?_, h.gt, h.gp, h.gF, ht, h.tF, h.pF', fun m => by rw [hz pF m] at hF; cases hF⟩, c _ _ hF ?_⟩
  · simp only [List.mem_cons, List.not_mem_nil, or_false] at ha
    rcases ha with rfl | rfl
    · exact h.gt
    · exact h.gp
  · simp only [List.mem_cons, List.not_mem_nil, or_false, not_or]
    exact ⟨h.tF.symm, h.pF'.symm⟩
theorem TbAt.put {K : PySem.W.Frag} {H : Hp} {t p pF : Addr} {y : SA} {s : SS} {n : Nat} {u : HO} (h : TbAt K H t p y s n) (h1 : t ≠ pF) (h2 : p ≠ pF) (h3 : pF ∉ y.own) : TbAt K (upd H pF u) t p y s n := by
  obtain ⟨⟨dt, a1⟩, ⟨past, a2, a3⟩, a4, a5⟩ := h
  exact ⟨⟨dt, by rw [upd_ne h1]; exact a1⟩, ⟨past, by rw [upd_ne h2]; exact a2, a3⟩, a4.ch (S := [pF]) (Ch.put (Ch.of (Ex.refl _)) (.head _)) fun a ha m => h3 (by rw [List.mem_singleton] at m; exact m ▸ ha), a5⟩
/-- the found list changes; something more is known -/
theorem LvI.put {K : PySem.W.Frag} {G H : Hp} {t p pF q : Addr} {y : SA} {s : SS} {n : Nat} {u o : HO} (h : LvI K G H t p pF y s n) (hq : H q = some o) (n1 : q ≠ t) (n2 : q ≠ p) (n3 : q ≠ pF) : LvI K (upd G q o) (upd H pF u) t p pF y s n :=
  ⟨ex_add (Ex.mut h.e h.gF) (by rw [upd_ne n3]; exact hq), by rw [upd_ne n1.symm]; exact h.gt, by rw [upd_ne n2.symm]; exact h.gp, by rw [upd_ne n3.symm]; exact h.gF, h.tb.put h.tF h.pF' h.yF, h.tF, h.pF', h.yF⟩
theorem dp_rows {K : PySem.W.Frag} {H : Hp} : ∀ {as : List Addr} {rss : List (List Int)}, Rows H as rss → DpAll K H (as.map V.ref) (rss.map fun rs => PyData.list (rs.map .int))
  | [], [], .nil => .nil
  | _ :: _, _ :: _, .cons h t => .cons (.lst (SqL.of h) (dp_ints _)) (dp_rows t)
theorem canLay_rows : ∀ rss : List (List Int), PyData.canLayAll0 (rss.map fun rs => PyData.list (rs.map .int)) = true
  | [] => by simp [PyData.canLayAll0]
  | rs :: r => by simp [PyData.canLayAll0, PyData.canLay0, PySem.W.canLayAll0_ints, canLay_rows r]
theorem depth_rows : ∀ rss : List (List Int), PyData.depthAll (rss.map fun rs => PyData.list (rs.map .int)) ≤ 2
  | [] => by simp [PyData.depthAll]
  | rs :: r => by
    have h1 := depth_rows r
    have h2 := PySem.W.depthAll_ints rs
    simp only [List.map_cons, PyData.depthAll, PyData.depth]
    omega
theorem shaped_rows (rss : List (List Int)) : SeqAt.shaped (.list (rss.map fun rs => PyData.list (rs.map .int))) = true := by
  have h1 := depth_rows rss
  have h2 : PyData.depth (.list (rss.map fun rs => PyData.list (rs.map .int))) ≤ 64 := by simp only [PyData.depth]; omega
  show (PyData.canLay0 (.list (rss.map fun rs => PyData.list (rs.map .int))) && decide (PyData.depth (.list (rss.map fun rs => PyData.list (rs.map .int))) ≤ 64)) = true
  rw [Bool.and_eq_true]
  exact ⟨by simp only [PyData.canLay0]; exact canLay_rows rss, decide_eq_true h2⟩
theorem eqv_rows : ∀ rss : List (List Int), PyData.eqvAll (rss.map fun rs => PyData.list (rs.map .int)) (rss.map fun rs => PyData.list (rs.map .int)) = true
  | [] => by simp [PyData.eqvAll]
  | rs :: r => by simp [PyData.eqvAll, PyData.eqv, PySem.W.ked_eqvAll, eqv_rows r]
theorem rv_eqRows {K : PySem.W.Frag} {H : Hp} {p q : Addr} {as bs : List Addr} {rss : List (List Int)} (hp : H p = some (.lst (as.map V.ref))) (hq : H q = some (.lst (bs.map V.ref))) (h1 : Rows H as rss) (h2 : Rows H bs rss) : RV (rEqD K) (.ref p) (.ref q) H (.bl true) := fun H1 e Q k =>
  ⟨.list (rss.map fun rs => PyData.list (rs.map .int)), .list (rss.map fun rs => PyData.list (rs.map .int)), .lst (SqL.of (e _ _ hp)) (dp_rows (h1.ex e)), .lst (SqL.of (e _ _ hq)) (dp_rows (h2.ex e)), shaped_rows _, shaped_rows _, by
    rw [PyData.eqv, eqv_rows]
    exact k H1 (Ex.refl _)⟩
/-- [[ranks[row] for row in rows] for rows in read(..)] -/
theorem e_lists {K : PySem.W.Frag} {H : Hp} {Q : VK} {c3 c4 c5 c6 c7 c8 c9 c10 c11 : Option V} {a b pK : Addr} {o : List Int} {ps : List Nat} (R : RdA K H a b o ps) (hK : H pK = some (.dK (rkD o)))
    (k : ∀ p bs H', Ex H H' → H' p = some (.lst (bs.map V.ref)) → Rows H' bs ((Lm.rd o 0 ps).map (List.map (Lm.rki o))) → Q (.ref p) H') :
    tLc (iList K (tCall (spLL 5 (preLists K)) kw5 E0 (tCons (tVar 0) (tCons (tVar 1) tNil)))) (gName 11) tYes (tLc (iList K (tVar 11)) (gName 5) tYes (tDGet (tVar 2) (tVar 5)) [5]) [11] [some (.ref a), some (.ref b), some (.ref pK), c3, c4, c5, c6, c7, c8, c9, c10, c11] H Q := by
  have hO := R.io
  have hol := hO.len
  have hpl := R.ip.len
  show tCall _ _ _ _ _ _ _
  refine call_in ?_
  refine (ea_cons (ev_var (v := .ref a) (i := 0) rfl) (ea_cons (ev_var (v := .ref b) (i := 1) rfl) ea_nil) : EvA _ [some (.ref a), some (.ref b), some (.ref pK), c3, c4, c5, c6, c7, c8, c9, c10, c11] H [.ref a, .ref b]) H (Ex.refl _) _ fun H1 e1 => ?_
  refine ⟨rfl, _, ⟨a, b, o, ps, rfl, (R.ex e1).so, (R.ex e1).sp, R.io, R.ip, rfl⟩, fun pR H2 hR e2 hLL => ?_⟩
  obtain ⟨as, hAs, hRows⟩ := hLL
  refine ⟨pR, rfl, ⟨_, SqL.of hAs⟩, fun D hD => ?_⟩
  have e12 := e1.trans e2
  have hal : as.length = ps.length := by rw [hRows.len, Lm.rd_len]
  refine lc_it (List.length_map V.ref ▸ walk_list (K := K) (a := pR) (xs := as.map V.ref) : Walk _ as.length _ _) (fun i H' => ∃ G bs, Ex H2 G ∧ Ex G H' ∧ G D = none ∧ H' D = some (.lst (bs.map V.ref)) ∧ Rows G bs (((Lm.rd o 0 ps).take i).map (List.map (Lm.rki o))))
    ⟨H2, [], Ex.refl _, Ex.new hD, hD, upd_same, .nil⟩ (fun i H' _ ⟨G, bs, eG, eG', _⟩ => SqL.of ((eG.trans eG') _ _ hAs)) ?_ ?_
  · rintro i v H' H'' hi ⟨G, bs, eG, eG', hGD, hDl, hB⟩ ⟨rfl, hy⟩
    rw [List.getElem?_map, List.getElem?_eq_getElem hi] at hy
    have hy2 : V.ref as[i] = v := Option.some.inj hy
    subst hy2
    obtain ⟨rs, hrs, hrow⟩ := hRows.get (List.getElem?_eq_getElem hi)
    have hsub : ∀ x ∈ rs, x ∈ o := fun x hx => Lm.rd_sub ps 0 (List.mem_flatten.mpr ⟨rs, List.mem_of_getElem? hrs, hx⟩)
    obtain ⟨hrl, _⟩ := rd_get hrs
    have htk : (Lm.rd o 0 ps).take (i + 1) = (Lm.rd o 0 ps).take i ++ [rs] := by rw [List.take_add_one, hrs]; rfl
    have e2' := eG.trans eG'
    have hbl : bs.length ≤ 30 := by
      have := hB.len
      rw [List.length_map, List.length_take, Lm.rd_len] at this
      omega
    refine ⟨rfl, ?_⟩
    simp only [tYes, if_true]
    refine (el_to (el_map (em := V.int) (xs := rs) (fun x => V.int (Lm.rki o x)) (ev_var (v := .ref as[i]) (i := 11) rfl) (SqL.of (e2' _ _ hrow)) (by omega) (fun x => rfl) fun x hx H3 e3 => ev_dget (k := Sum.inl x) (ev_var (v := .ref pK) (i := 2) rfl) (ev_var (v := .int x) (i := 5) rfl) (((e12.trans e2').trans e3) _ _ hK) (rkD_get hO (hsub x hx)))
      (show rs.map (fun x => V.int (Lm.rki o x)) = (rs.map (Lm.rki o)).map V.int by rw [List.map_map]; rfl) : EvL _ [some (.ref a), some (.ref b), some (.ref pK), c3, c4, c5, c6, c7, c8, c9, c10, some (.ref as[i])] H'' ((rs.map (Lm.rki o)).map V.int)) H'' (Ex.refl _) _ fun r H3 hr e3 h3 => ?_
    have hrD : r ≠ D := fun z => by rw [z, hDl] at hr; cases hr
    have hGr : G r = none := fresh_back eG' hr
    refine ⟨_, e3 _ _ hDl, sz_lt (by rw [List.length_map]; omega), upd G r (.lst ((rs.map (Lm.rki o)).map V.int)), bs ++ [r], Ex.mut eG (fresh_back eG hGr), ex_add (Ex.mut (eG'.trans e3) hGD) (by rw [upd_ne hrD]; exact h3), by rw [upd_ne hrD.symm]; exact hGD, by rw [upd_same, List.map_append]; rfl, ?_⟩
    rw [htk, List.map_append]
    exact Rows.snoc (hB.ex (Ex.new hGr)) upd_same
  · rintro H3 ⟨G, bs, eG, eG', hGD, hDl, hB⟩
    rw [hal, List.take_of_length_le (by rw [Lm.rd_len]; exact Nat.le_refl _)] at hB
    exact k D bs H3 (e12.trans (eG.trans eG')) hDl (hB.ex eG')
theorem el_lostOf {K : PySem.W.Frag} {σ : L2.St} {H : Hp} {t p : Addr} {y : SA} {s : SS} {n : Nat} (h3 : σ[3]? = some (some (.ref t))) (hT : TbAt K H t p y s n) (B : Bd s) : EvL (tMeth (He.ga K "LiveTable") "lost_of" (spLostOf K) [] E0 (tVar 3) (tCons (tC (.str "a")) tNil)) σ H ((lostOf s).map V.int) := by
  intro H1 e1 Q k
  have hT1 := hT.ex e1
  obtain ⟨dt, ht⟩ := hT1.t
  exact ⟨.ref t, h3, t, dt, _, rfl, ht, rfl, t, p, y, s, n, rfl, hT1, B, fun q H2 hq e2 h2 => k q H2 hq e2 h2⟩
section
variable {P : Program} {w : World} {K : PySem.W.Frag} {mg : Str → Option Value} {base : Heap}
def spLive : Sp := fun vs H Q _ => ∃ (a b : Addr) (o : List Int) (ps : List Nat), vs = [.ref a, .ref b] ∧ H a = some (.lst (o.map V.int)) ∧ H b = some (.lst (nums ps)) ∧ Lm.IsOrd o ∧ Lm.IsPolls o ps ∧ RetV (.bl true) H Q
def nmLive : List Str := ["_law_order_here", "_law_polls_here", "_law_ranks", "_law_table", "_law_found", "_law_row", "_law_moment", "_law_poll", "_law_lists", "_law_lost", "_law_rank", "_law_rows"]
theorem sc_live : FnScope nmLive ["_law_order_here", "_law_polls_here"] (defScope Lh.s_law_live_right) := ⟨rfl, rfl, rfl, by decide +kernel, rfl, by decide +kernel, by decide +kernel⟩
theorem ok_live (T : Facts K mg) : Def P w K mg base "_law_live_right" 7 ["_law_order_here", "_law_polls_here"] [] spLive := by
  obtain ⟨fd, F⟩ := T.fn 43
  refine ⟨⟨fd, [], go F sc_live ?_ fun cdv A outer s H vs Q E hr h => ?_, F.bindsN fun _ _ _ _ _ _ us hl => match us, hl with | [_, _], _ => rfl, .nil⟩, T.glo 30, F.kp⟩
  · rintro vs H Q E ⟨a, b, o, ps, rfl, _⟩
    rfl
  obtain ⟨a, b, o, ps, rfl, ha, hb, hO, hP, k⟩ := h
  have nd := sc_live.nd
  have hu := hu_of hr
  refine ⟨_, pss_cons (ps_set (i := 2) nd rfl (Or.inr rfl) (pe_callTy (call_dictP rfl) rfl T.n_dict boot_dict (pa_cons (pe_lc (own := [("_law_rank", 10), ("_law_row", 5)]) (g := gTup K 2 (gCons (gName 10) (gCons (gName 5) gNil))) (tt := tYes) rfl nd
        (pi_enum rfl T.n_enumerate (pa_cons (pe_callB cr_sortedI rfl T.n_sorted boot_sorted (pa_cons (pv 0) pa_nil)) pa_nil)) (blkOk_by (own := [("_law_rank", 10), ("_law_row", 5)]) (N := nmLive) (sc := defScope Lh.s_law_live_right) (by decide +kernel))
        (fun _ _ _ _ _ => pg_tup rfl (pgs_cons (pg_name (i := 10) nd rfl (Or.inl rfl)) (pgs_cons (pg_name (i := 5) nd rfl (Or.inl rfl)) pgs_nil))) (fun _ _ _ _ _ => pts_nil) (fun _ _ _ _ _ => pe_tup (pa_cons (pv 5) (pa_cons (pe_op op_add (pv 10) pe_int) pa_nil)))) pa_nil)))
    (pss_cons (ps_par (i := 3) (j := 4) rfl nd rfl rfl (by decide) rfl rfl (pa_cons (pe_new0 (ok_LiveTable_init T) (T.mkr 80) (T.glo 34) (hr.mono (by decide))) (pa_cons (pe_lst pa_nil) pa_nil)) rfl)
    (pss_cons (ps_for PassesOwn.never rfl (pi_list (pv 0)) (pg_name (i := 5) nd rfl (Or.inl rfl)) (pss_one (ps_expr (pe_mth0 (ok_LiveTable_begin T) (T.meth 85) (T.cls 79) hr (pv 3)))))
    (pss_cons (ps_for PassesOwn.never rfl (pi_range1 rfl T.n_range (pa_cons (pe_op op_add (pe_callB call_len_seq rfl T.n_len boot_len (pa_cons (pv 0) pa_nil)) pe_int) pa_nil)) (pg_name (i := 6) nd rfl (Or.inl rfl))
      (pss_cons (ps_for PassesOwn.never rfl (pi_list (pv 1)) (pg_name (i := 7) nd rfl (Or.inl rfl))
          (pss_one (ps_if (pt_cmpR op_eq (pv 7) (pv 6) (nomark _)) (pss_one (ps_expr (pe_bm PySem.F.plainAttrs_list PySem.F.slot_list_append PySem.F.type_list_append mt_append (pv 4) (pa_cons (pe_mth (ok_LiveTable_poll T) (T.meth 87) (T.cls 79) hr (pv 3) (pa_cons pe_str pa_nil)) pa_nil)))) pss_nil)))
        (pss_one (ps_if (pt_cmpR op_lt (pv 6) (pe_callB call_len_seq rfl T.n_len boot_len (pa_cons (pv 0) pa_nil)) (nomark _))
          (pss_one (ps_expr (pe_mth (ok_LiveTable_commit T) (T.meth 86) (T.cls 79) hr (pv 3) (pa_cons (pe_dget hu (pv 2) (pe_ix ix_list (pv 0) (pv 6) (fun _ _ => rfl)) fun _ _ => rfl) pa_nil)))) pss_nil))))
    (pss_cons (ps_setLc (i := 8) (own := [("_law_rows", 11)]) (g := gName 11) (tt := tYes) rfl nd rfl rfl (sw_true rfl rfl rfl rfl) (pi_list (pe_def (ok_read T) hr (pa_cons (pv 0) (pa_cons (pv 1) pa_nil)))) (blkOk_by (own := [("_law_rows", 11)]) (N := nmLive) (sc := defScope Lh.s_law_live_right) (by decide +kernel))
        (fun _ _ _ _ _ => pg_name (i := 11) nd rfl (Or.inl rfl)) (fun _ _ _ _ _ => pts_nil)
        (te := tLc (iList K (tVar 11)) (gName 5) tYes (tDGet (tVar 2) (tVar 5)) [5])
        (fun _ _ _ _ _ => pe_lc (own := [("_law_row", 5)]) (wi := iList K (tVar 11)) (g := gName 5) (tt := tYes) rfl nd (pi_list (pv 11)) (blkOk_by (own := [("_law_row", 5)]) (N := nmLive) (sc := scRows) (by decide +kernel))
          (fun _ _ _ _ _ => pg_name (i := 5) nd rfl (Or.inl rfl)) (fun _ _ _ _ _ => pts_nil) (fun _ _ _ _ _ => pe_dget hu (pv 2) (pv 5) fun _ _ => rfl)))
    (pss_cons (ps_setLc (i := 9) (own := [("_law_row", 5)]) (g := gName 5) (tt := tYes) rfl nd rfl rfl (sw_true rfl rfl rfl rfl) (pi_list (pe_def (ok_lost_ids T) hr (pa_cons (pv 0) (pa_cons (pv 1) pa_nil)))) (blkOk_by (own := [("_law_row", 5)]) (N := nmLive) (sc := defScope Lh.s_law_live_right) (by decide +kernel))
        (fun _ _ _ _ _ => pg_name (i := 5) nd rfl (Or.inl rfl)) (fun _ _ _ _ _ => pts_nil) (fun _ _ _ _ _ => pe_dget hu (pv 2) (pv 5) fun _ _ => rfl))
    (pss_one (ps_ret (pe_and (pe_cmpR (op_eqD hr.units) (pv 4) (pv 8) (nomark _)) (pe_one (pe_cmpR (op_eqD hr.units) (pe_mth (ok_LiveTable_lost_of T) (T.meth 88) (T.cls 79) (hr.mono (by decide)) (pv 3) (pa_cons pe_str pa_nil)) (pv 9) (nomark _))))))))))), ?_⟩
  have hol := hO.len
  have hpl := hP.len
  -- ranks
  refine q_asgE (e_ranks hO ha fun pK H1 hK e1 hKv => ?_)
  -- table, found
  refine q_par2 (cons_in (e_newT fun t p y H2 ht hp hy e2 hT => cons_in ⟨Nat.zero_le _, fun pF hF => ⟨_, _, rfl, ?_⟩⟩))
  have hL0 : LvI K H1 (upd H2 pF (.lst [])) t p pF y (begun 0) 0 := ⟨e2.trans (Ex.new hF), ht, hp, fresh_back e2 hF, hT.ex (Ex.new hF), (fun e => by
    obtain ⟨dt, h⟩ := hT.t
    rw [e, hF] at h
    cases h), (fun e => by
    obtain ⟨past, h, _⟩ := hT.P
    rw [e, hF] at h
    cases h), fun m => hT.st.there pF m hF⟩
  have hF0 : upd H2 pF (.lst []) pF = some (.lst []) := upd_same
  generalize upd H2 pF (.lst []) = H3 at hL0 hF0 ⊢
  have ha1 := e1 _ _ ha
  have hb1 := e1 _ _ hb
  -- the begins
  refine q_forLn (xs := o.map V.int) (ev_var (v := .ref a) rfl) (SqL.of (hL0.e _ _ ha1)) (fun i σ' H' => ∃ y v5, LvI K H1 H' t p pF y (begun i) i ∧ H' pF = some (.lst []) ∧ σ' = [some (.ref a), some (.ref b), some (.ref pK), some (.ref t), some (.ref pF), v5, none, none, none, none, none, none])
    (fun H4 e4 => ⟨y, none, hL0.ex e4, e4 _ _ hF0, rfl⟩) (fun i σ' H' _ ⟨y, v5, L, _⟩ => SqL.of (L.e _ _ ha1)) ?_ ?_
  · rintro i x σ' H' hi ⟨y, v5, L, hf, rfl⟩
    have hio : i < o.length := by
      have := (List.getElem?_eq_some_iff.mp hi).1
      rw [List.length_map] at this
      exact this
    obtain ⟨dt, htt⟩ := L.tb.t
    refine ⟨.ref t, rfl, t, dt, _, rfl, htt, rfl, t, p, y, begun i, i, rfl, ⟨L.tb, ?_, .inr (by show i < 60; omega), by omega, begun_ok i⟩, fun v z H'' h1 h2 h3 h4 => ?_⟩
    · refine ⟨by show ((List.range i).map _).length ≤ 100; rw [List.length_map, List.length_range]; omega, Nat.zero_le _, (fun q hq => by cases hq), by show i ≤ 100; omega⟩
    · obtain ⟨L', hf'⟩ := L.call hf h1 h2 h3
      rw [begun_step] at L'
      exact ⟨z, _, L', hf', rfl⟩
  rintro σ' H4 ⟨y4, v5, L4, hf4, rfl⟩
  rw [List.length_map] at L4
  -- the moments
  have hnl : Ev (tOp (rI0 fun i j => .int (i + j)) (tCB (fun xs H Q => ∃ p ys, xs = [.ref p] ∧ (SqL K H p ys ∨ SqT K H p ys) ∧ Q (.int ys.length) H) (tCons (tVar 0) tNil)) (tC (.int 1))) [some (.ref a), some (.ref b), some (.ref pK), some (.ref t), some (.ref pF), v5, none, none, none, none, none, none] H4 (.int ((o.length + 1 : Nat) : Int)) :=
    ev_to (ev_op (ev_len' (ev_var (v := .ref a) rfl) (SqL.of (L4.e _ _ ha1))) ev_c rv_I0) (by rw [List.length_map]; rfl)
  refine q_forR1 (n := ((o.length + 1 : Nat) : Int)) (ea_cons hnl ea_nil) (by omega) (fun m σ' H' => ∃ G y s pn fs v5 v6 v7, Ex H1 G ∧ LvI K G H' t p pF y s pn ∧ H' pF = some (.lst (fs.map V.ref)) ∧ Rows G fs ((Lm.rd o 0 (ps.filter fun q => decide (q < m))).map (List.map (Lm.rki o))) ∧ SI o (ps.filter fun q => decide (q < m)) m s ∧
      pn ≤ o.length + m + (ps.filter fun q => decide (q < m)).length ∧ σ' = [some (.ref a), some (.ref b), some (.ref pK), some (.ref t), some (.ref pF), v5, v6, v7, none, none, none, none]) ?_ ?_ ?_
  · intro H5 e5
    have e0 : (ps.filter fun q => decide (q < 0)) = [] := by
      rw [List.filter_eq_nil_iff]
      intro q _
      simp
    rw [e0]
    exact ⟨H1, y4, begun o.length, o.length, [], _, _, _, Ex.refl _, L4.ex e5, e5 _ _ hf4, .nil, begun_si hO, by show o.length ≤ _; omega, rfl⟩
  · rintro m σ' H' hm ⟨G, y, s, pn, fs, v5, v6, v7, eG, L, hf, hRw, hSI, hpn, rfl⟩
    have hmo : m ≤ o.length := by omega
    have hd0 := List.length_filter_le (fun q => decide (q < m)) ps
    -- the polls at this moment
    refine q_forLn (xs := nums ps) (ev_var (v := .ref b) rfl) (SqL.of ((eG.trans L.e) _ _ hb1)) (fun i σ' H' => ∃ G y s pn fs v7, Ex H1 G ∧ LvI K G H' t p pF y s pn ∧ H' pF = some (.lst (fs.map V.ref)) ∧ Rows G fs ((Lm.rd o 0 ((ps.filter fun q => decide (q < m)) ++ ((ps.take i).filter fun q => decide (q = m)))).map (List.map (Lm.rki o))) ∧
        SI o ((ps.filter fun q => decide (q < m)) ++ ((ps.take i).filter fun q => decide (q = m))) m s ∧ pn ≤ o.length + m + ((ps.filter fun q => decide (q < m)) ++ ((ps.take i).filter fun q => decide (q = m))).length ∧
        σ' = [some (.ref a), some (.ref b), some (.ref pK), some (.ref t), some (.ref pF), v5, some (.int (m : Int)), v7, none, none, none, none]) ?_ (fun i σ' H' _ ⟨G, y, s, pn, fs, v7, eG, L, _⟩ => SqL.of ((eG.trans L.e) _ _ hb1)) ?_ ?_
    · intro H5 e5
      rw [List.take_zero, List.filter_nil, List.append_nil]
      exact ⟨G, y, s, pn, fs, _, eG, L.ex e5, e5 _ _ hf, hRw, hSI, hpn, rfl⟩
    · rintro i x σ' H' hi ⟨G, y, s, pn, fs, v7, eG, L, hf, hRw, hSI, hpn, rfl⟩
      obtain ⟨q, hqi, rfl⟩ := nums_get hi
      have htk : ps.take (i + 1) = ps.take i ++ [q] := by rw [List.take_add_one, hqi]; rfl
      have hil := (List.getElem?_eq_some_iff.mp hqi).1
      have hdl : ((ps.filter fun q => decide (q < m)) ++ ((ps.take i).filter fun q => decide (q = m))).length ≤ 60 := by
        rw [List.length_append]
        have h2 := List.length_filter_le (fun q => decide (q = m)) (ps.take i)
        rw [List.length_take] at h2
        omega
      have hfl : fs.length ≤ 60 := by
        have := hRw.len
        rw [List.length_map, Lm.rd_len] at this
        omega
      refine s_when (b := decide (q = m)) (et_is (et_test (ev_op (ev_var (v := .int (q : Int)) rfl) (ev_var (v := .int (m : Int)) rfl) (rv_eq rfl))) ?_) (fun hb H5 e5 => ?_) fun hb H5 e5 => ?_
      · exact decide_eq_decide.mpr ⟨fun h => by injection h with h; omega, fun h => by rw [h]⟩
      · have hqm : q = m := of_decide_eq_true hb
        have L5 := L.ex e5
        have hf5 := e5 _ _ hf
        obtain ⟨dt, htt⟩ := L5.tb.t
        obtain ⟨past, hpp, _⟩ := L5.tb.P
        refine ⟨.ref pF, rfl, Or.inl ⟨rfl, _, SqL.of hf5⟩, cons_in ?_⟩
        refine ⟨.ref t, rfl, t, dt, _, rfl, htt, rfl, t, p, y, s, pn, rfl, ⟨L5.tb, hSI.bd hO (by omega), .inl rfl, by omega, trivial⟩, fun v z H'' h1 h2 h3 h4 => ?_⟩
        obtain ⟨r, rfl, hr0, hr1⟩ := h4
        obtain ⟨L6, hf6⟩ := L5.call hf5 h1 h2 h3
        have n1 : r ≠ t := fun z => by rw [z, htt] at hr0; cases hr0
        have n2 : r ≠ p := fun z => by rw [z, hpp] at hr0; cases hr0
        have n3 : r ≠ pF := fun z => by rw [z, hf5] at hr0; cases hr0
        have hGr : G r = none := fresh_back L5.e hr0
        have hdn : (ps.filter fun q => decide (q < m)) ++ ((ps.take (i + 1)).filter fun q => decide (q = m)) = ((ps.filter fun q => decide (q < m)) ++ ((ps.take i).filter fun q => decide (q = m))) ++ [m] := by
          rw [htk, List.filter_append, List.filter_cons, if_pos hb, List.filter_nil, hqm, List.append_assoc]
        refine ⟨pF, fs.map V.ref, .ref r, rfl, rfl, hf6, sz_lt (by rw [List.length_map]; omega), upd G r (.lst ((gotL s).map V.int)), z, step s .pol, pn + 1, fs ++ [r], _, Ex.mut eG (fresh_back eG hGr), L6.put hr1 n1 n2 n3, by rw [upd_same, List.map_append]; rfl, ?_, ?_, ?_, rfl⟩
        · rw [hdn, rd_snoc, List.map_append]
          refine Rows.snoc (hRw.ex (Ex.new hGr)) ?_
          rw [upd_same, hSI.got]
        · rw [hdn]
          exact hSI.pol
        · rw [hdn, List.length_append]
          show pn + 1 ≤ _ + (_ + 1)
          omega
      · have hdn : (ps.filter fun q => decide (q < m)) ++ ((ps.take (i + 1)).filter fun q => decide (q = m)) = (ps.filter fun q => decide (q < m)) ++ ((ps.take i).filter fun q => decide (q = m)) := by
          rw [htk, List.filter_append, List.filter_cons, hb, if_neg Bool.false_ne_true, List.filter_nil, List.append_nil]
        refine ⟨G, y, s, pn, fs, _, eG, L.ex e5, e5 _ _ hf, ?_, ?_, ?_, rfl⟩
        · rw [hdn]; exact hRw
        · rw [hdn]; exact hSI
        · rw [hdn]; exact hpn
    rintro σ' H' ⟨G, y, s, pn, fs, v7, eG, L, hf, hRw, hSI, hpn, rfl⟩
    rw [nums_len, List.take_length, filter_up m hP.up] at hRw hSI hpn
    have hd1 := List.length_filter_le (fun q => decide (q < m + 1)) ps
    refine s_when (b := decide (m < o.length)) (et_is (et_test (ev_op (ev_var (v := .int (m : Int)) rfl) (ev_len' (ev_var (v := .ref a) rfl) (SqL.of ((eG.trans L.e) _ _ ha1))) rv_I0)) (by rw [List.length_map]; exact decide_eq_decide.mpr ⟨fun h => by omega, fun h => by omega⟩)) (fun hb H5 e5 => ?_) fun hb H5 e5 => ?_
    · have hml : m < o.length := of_decide_eq_true hb
      have L5 := L.ex e5
      have hf5 := e5 _ _ hf
      obtain ⟨dt, htt⟩ := L5.tb.t
      have hox : o[m]? = some o[m] := List.getElem?_eq_getElem hml
      have hxm : o[m] ∈ o := List.getElem_mem hml
      generalize o[m] = x at hox hxm
      refine ⟨.ref t, rfl, t, dt, _, rfl, htt, rfl, ?_⟩
      refine (ea_cons (ev_dget (k := Sum.inl x) (v := .int (Lm.rki o x)) (ev_var (v := .ref pK) (i := 2) rfl) (ev_op (ev_var (v := .ref a) (i := 0) rfl) (ev_var (v := .int (m : Int)) (i := 6) rfl) (rv_ixL (v := .int x) (SqL.of ((eG.trans L5.e) _ _ ha1)) (atI_nat (by rw [List.getElem?_map, hox]; rfl)))) ((eG.trans L5.e) _ _ hKv) (rkD_get hO hxm)) ea_nil :
        EvA _ [some (.ref a), some (.ref b), some (.ref pK), some (.ref t), some (.ref pF), v5, some (.int (m : Int)), v7, none, none, none, none] H5 [.int (Lm.rki o x)]) H5 (Ex.refl _) _ fun H6 e6 => ?_
      have L6 := L5.ex e6
      refine ⟨t, p, y, s, pn, Lm.rki o x, rfl, ⟨L6.tb, hSI.bd hO (by omega), .inr (by have := hSI.ev; omega), by omega, hSI.op m x (Nat.le_refl _) hox⟩, (rki_pos hO hxm).1, fun v z H'' h1 h2 h3 h4 => ?_⟩
      obtain ⟨L7, hf7⟩ := L6.call (e6 _ _ hf5) h1 h2 h3
      exact ⟨G, z, _, pn + 1, fs, _, _, _, eG, L7, hf7, hRw, hSI.com hO hox, by omega, rfl⟩
    · have hml : o.length ≤ m := Nat.le_of_not_lt (of_decide_eq_false hb)
      exact ⟨G, y, s, pn, fs, _, _, _, eG, L.ex e5, e5 _ _ hf, hRw, hSI.stay hml, by omega, rfl⟩
  rintro σ' H5 ⟨G, y, s, pn, fs, v5', v6, v7, eG, L, hf, hRw, hSI, hpn, rfl⟩
  have hall : (ps.filter fun q => decide (q < ((o.length + 1 : Nat) : Int).toNat)) = ps := by
    rw [List.filter_eq_self]
    intro q hq
    have := hP.le q hq
    exact decide_eq_true (by omega)
  rw [hall] at hRw hSI
  have e15 : Ex H1 H5 := eG.trans L.e
  refine q_asgE (e_lists ⟨SqL.of (e15 _ _ ha1), SqL.of (e15 _ _ hb1), hO, hP⟩ (e15 _ _ hKv) fun pQ bs H6 e6 hQ hB => ?_)
  have e16 := e15.trans e6
  have hlo : ∀ x ∈ Lm.lostL o ps, x ∈ o := fun x hx => (Lm.mem_lostL.mp hx).1
  have hll := Lm.lostL_len o ps
  refine q_asgL (xs := ((Lm.lostL o ps).map (Lm.rki o)).map V.int) (el_to (el_lcFN (em := V.int) (xs := Lm.lostL o ps) (fun x => some (V.int (Lm.rki o x))) (el_spL (dvs := kw5) (ea_cons (ev_var (v := .ref a) rfl) (ea_cons (ev_var (v := .ref b) rfl) ea_nil)) rfl fun H7 e7 => ⟨a, b, o, ps, rfl, ⟨SqL.of ((e16.trans e7) _ _ ha1), SqL.of ((e16.trans e7) _ _ hb1), hO, hP⟩, rfl⟩) (by omega) (fun x => rfl)
    fun x hx H7 e7 => ⟨(fun z => by cases z), fun v z => ?_⟩) (by rw [fm_map, List.map_map]; rfl)) fun pLo H7 hLo e7 h7 => ?_
  · cases z
    exact ⟨fun H2 e2 Q k => k H2 (Ex.refl _), ev_dget (k := Sum.inl x) (ev_var (v := .ref pK) rfl) (ev_var (v := .int x) rfl) ((e16.trans e7) _ _ hKv) (rkD_get hO (hlo x hx))⟩
  have e57 := e6.trans e7
  have L7 := L.ex e57
  refine s_ret (v := .bl true) (ev_andV (a := true) (b := true) (ev_op (ev_var (v := .ref pF) rfl) (ev_var (v := .ref pQ) rfl) (rv_eqRows (e57 _ _ hf) (e7 _ _ hQ) (hRw.ex (L.e.trans e57)) (hB.ex e7))) fun _ =>
    ev_bl (ev_opL1 (el_lostOf (s := s) rfl L7.tb (hSI.bd hO (by omega))) (fun H8 e8 => ev_var (v := .ref pLo) rfl) fun q H8 h8 e8 => rv_eqInts (ms := (Lm.lostL o ps).map (Lm.rki o)) (SqL.of h8) (SqL.of (e8 _ _ h7))) (by rw [lost_live hO hP hSI (by omega)]; exact decide_eq_true rfl)) fun H8 e8 => ?_
  exact k H8 ((e1.trans e15).trans (e57.trans e8))
end
end Lp

/-! ## V22 -/
set_option Elab.async false
set_option linter.all false
set_option maxRecDepth 100000
set_option maxHeartbeats 8000000
/-! The law. -/
namespace Lp
open PySem PySem.Spec PyProof.Rows L2 Evl
theorem e_order {σ : L2.St} {H : Hp} {Q : VK} {s : Addr} {n m : Nat} {te : TE} (h2 : σ[2]? = some (some (.ref s))) (hS : Src H s n) (hn : n ≤ 10000) (hm : m ≤ 30) (h : Ev te σ H (.int (m : Int)))
    (k : ∀ p o H', H p = none → p ≠ s → Ch [s] H H' → Src H' s (n + 100) → H' p = some (.lst (o.map V.int)) → Lm.IsOrd o → o.length ≤ m → Q (.ref p) H') : tCall spOrder [] E0 (tCons (tVar 2) (tCons te tNil)) σ H Q := by
  refine call_in (cons_in ⟨.ref s, h2, cons_in ?_⟩)
  refine h H (Ex.refl _) _ fun H1 e1 => ⟨s, n, m, rfl, hS.ex e1, hn, hm, fun p o H' hp hc hS' hl hO hol => k p o H' (fresh_back e1 hp) (fun z => ?_) ((Ch.of e1).trans hc) hS' hl hO hol⟩
  obtain ⟨i0, i1, i2, g, _⟩ := hS.ex e1
  rw [z, g] at hp
  cases hp
/-- the moments that make nothing lost -/
def quiet (o : List Int) : List Nat := ((List.range (o.length + 1)).filter fun q => decide ((Lm.rk o (Lm.topN o q) : Int) - (q : Int) = 0)).take 30
theorem quiet_polls (o : List Int) : Lm.IsPolls o (quiet o) := by
  refine ⟨by unfold quiet; rw [List.length_take]; omega, ?_, fun p hp => ?_⟩
  · refine List.Pairwise.sublist ((List.take_sublist _ _).trans List.filter_sublist) ?_
    exact (List.pairwise_lt_range (n := o.length + 1)).imp fun h => Nat.le_of_lt h
  · have := List.mem_range.mp (List.mem_filter.mp (List.mem_of_mem_take hp)).1
    omega
theorem quiet_lost {o : List Int} (hO : Lm.IsOrd o) : Lm.lostL o (quiet o) = [] := by
  refine Lm.quiet_none hO fun q hq => ?_
  obtain ⟨h1, h2⟩ := List.mem_filter.mp (List.mem_of_mem_take hq)
  exact ⟨by have := List.mem_range.mp h1; omega, of_decide_eq_true h2⟩
theorem toy_lost : Lm.lostL [2, 1, 4, 5, 3, 7, 6] [1, 4, 7] = [1, 3] := by
  unfold Lm.lostL
  rw [← Lm.srt_eq (ys := [1, 2, 3, 4, 5, 6, 7]) (by decide) (by decide)]
  decide
theorem toy_ord : Lm.IsOrd [2, 1, 4, 5, 3, 7, 6] := ⟨by decide, by decide, by decide, by decide⟩
theorem toy_polls : Lm.IsPolls [2, 1, 4, 5, 3, 7, 6] [1, 4, 7] := ⟨by decide, by decide, by decide⟩
theorem s_whenE {tc : TT} {tu : TS} {D : Ends} {σ : L2.St} {H : Hp} (h : tc σ H fun b H1 => if b = true then tu D σ H1 else D.nx σ H1) : tIfS tc tu tNext D σ H := h
theorem two_polls {o : List Int} {x y : Nat} (h1 : x ≤ y) (h2 : y ≤ o.length) : Lm.IsPolls o [x, y] := by
  refine ⟨by show 2 ≤ 30; decide, by simpa using h1, fun p hp => ?_⟩
  simp only [List.mem_cons, List.not_mem_nil, or_false] at hp
  rcases hp with rfl | rfl <;> omega
theorem ret_in {te : TE} {D : Ends} {σ : L2.St} {H : Hp} (h : te σ H fun v H1 => D.rt v H1) : tRet te D σ H := h
section
variable {P : Program} {w : World} {K : PySem.W.Frag} {mg : Str → Option Value} {base : Heap}
def spLaw (K : PySem.W.Frag) : Sp := fun vs H Q _ => ∃ (a : Addr) (ns : List Int), vs = [.ref a] ∧ SqL K H a (ns.map V.int) ∧ ∀ H', Q (.bl true) H'
def nmLaw : List Str := ["_law_script", "_law_k", "_law_source_here", "_law_turn", "_law_order_here", "_law_polls_here", "_law_quiet", "_law_moment", "_law_many", "_law_small", "_law_early", "_law_late"]
theorem sc_law : FnScope nmLaw ["_law_script"] (defScope Lh.s_law) := ⟨rfl, rfl, rfl, by decide +kernel, rfl, by decide +kernel, by decide +kernel⟩
theorem fn_law (T : Facts K mg) {fd : FuncData} {dvs : List V} {kws : List (Str × V)} (F : FunD K "law" "law" (defArgs Lh.s_law) (defBody Lh.s_law) (defScope Lh.s_law) dvs kws (He.ga K "law") fd) : FnOk P w K mg base CX0 10 (He.ga K "law") fd ["_law_script"] (spLaw K) := by
  refine go F sc_law ?_ fun cdv A outer s H vs Q E hr h => ?_
  · rintro vs H Q E ⟨a, ns, rfl, _⟩
    rfl
  obtain ⟨a, ns, rfl, hs, k⟩ := h
  have nd := sc_law.nd
  have hu := hu_of hr
  refine ⟨_, pss_cons (ps_for PassesOwn.never rfl (pi_range1 rfl T.n_range (pa_cons (pe_callB (call_max2 rfl) rfl T.n_max boot_max (pa_cons pe_int (pa_cons (pe_callB (call_min2 rfl) rfl T.n_min boot_min (pa_cons pe_int (pa_cons (pe_callB call_len_seq rfl T.n_len boot_len (pa_cons (pv 0) pa_nil)) pa_nil))) pa_nil))) pa_nil)) (pg_name (i := 1) nd rfl (Or.inl rfl))
      (pss_cons (ps_set (i := 2) nd rfl (Or.inl rfl) (pe_def (ok_source T) (hr.mono (by decide)) (pa_cons (pv 0) (pa_cons (pv 1) pa_nil))))
      (pss_cons (ps_for PassesOwn.never rfl (pi_range1 rfl T.n_range (pa_cons pe_int pa_nil)) (pg_name (i := 3) nd rfl (Or.inl rfl))
        (pss_cons (ps_set (i := 4) nd rfl (Or.inl rfl) (pe_def (ok_order T) (hr.mono (by decide)) (pa_cons (pv 2) (pa_cons (pe_ix ix_list (pe_lst (pa_cons pe_int (pa_cons pe_int pa_nil))) (pe_callTy call_int1 rfl T.n_int boot_int (pa_cons (pe_cmpR op_gt (pv 3) pe_int (nomark _)) pa_nil)) (fun _ _ => rfl)) pa_nil))))
        (pss_cons (ps_set (i := 5) nd rfl (Or.inl rfl) (pe_def (ok_polls T) (hr.mono (by decide)) (pa_cons (pv 2) (pa_cons (pv 4) pa_nil))))
        (pss_cons (ps_if (PW.pt (pw_or (pt_not (pt_val (pe_def (ok_right T) hr (pa_cons (pv 2) (pa_cons (pv 4) (pa_cons (pv 5) pa_nil)))))) (pw_or1 (pt_not (pt_val (pe_def (ok_live T) (hr.mono (by decide)) (pa_cons (pv 4) (pa_cons (pv 5) pa_nil)))))))) (pss_one (ps_ret pe_bl)) pss_nil)
        (pss_cons (ps_set (i := 6) nd rfl (Or.inl rfl) (pe_slice sl_list (pe_lc (own := [("_law_moment", 7), ("_law_many", 8)]) (g := gTup K 2 (gCons (gName 7) (gCons (gName 8) gNil))) rfl nd (pi_enum rfl T.n_enumerate (pa_cons (pe_def (ok_missed_counts T) (hr.mono (by decide)) (pa_cons (pv 4) pa_nil)) pa_nil))
            (blkOk_by (own := [("_law_moment", 7), ("_law_many", 8)]) (N := nmLaw) (sc := defScope Lh.s_law) (by decide +kernel)) (fun _ _ _ _ _ => pg_tup rfl (pgs_cons (pg_name (i := 7) nd rfl (Or.inl rfl)) (pgs_cons (pg_name (i := 8) nd rfl (Or.inl rfl)) pgs_nil)))
            (fun _ _ _ _ _ => pts_one (pt_cmpR op_eq (pv 8) pe_int (nomark _))) (fun _ _ _ _ _ => pv 7)) po_none (po_some pe_int)))
        (pss_one (ps_if (pt_cmpR (op_neD hr.units) (pe_def (ok_lost_ids T) (hr.mono (by decide)) (pa_cons (pv 4) (pa_cons (pv 6) pa_nil))) (pe_lst pa_nil) (nomark _)) (pss_one (ps_ret pe_bl)) pss_nil)))))))
      (pss_cons (ps_set (i := 9) nd rfl (Or.inl rfl) (pe_def (ok_order T) (hr.mono (by decide)) (pa_cons (pv 2) (pa_cons pe_int pa_nil))))
      (pss_one (ps_for PassesOwn.never rfl (pi_range1 rfl T.n_range (pa_cons (pe_op op_add (pe_callB call_len_seq rfl T.n_len boot_len (pa_cons (pv 9) pa_nil)) pe_int) pa_nil)) (pg_name (i := 10) nd rfl (Or.inl rfl))
        (pss_one (ps_for PassesOwn.never rfl (pi_range2 rfl T.n_range (pa_cons (pv 10) (pa_cons (pe_op op_add (pe_callB call_len_seq rfl T.n_len boot_len (pa_cons (pv 9) pa_nil)) pe_int) pa_nil))) (pg_name (i := 11) nd rfl (Or.inl rfl))
          (pss_one (ps_if (pt_not (pt_val (pe_def (ok_right T) hr (pa_cons (pv 2) (pa_cons (pv 9) (pa_cons (pe_lst (pa_cons (pv 10) (pa_cons (pv 11) pa_nil))) pa_nil)))))) (pss_one (ps_ret pe_bl)) pss_nil))))))))))
    (pss_one (ps_ret (pe_cmpR (op_eqD hr.units) (pe_def (ok_lost_ids T) (hr.mono (by decide)) (pa_cons (pe_lst (pa_cons pe_int (pa_cons pe_int (pa_cons pe_int (pa_cons pe_int (pa_cons pe_int (pa_cons pe_int (pa_cons pe_int pa_nil)))))))) (pa_cons (pe_lst (pa_cons pe_int (pa_cons pe_int (pa_cons pe_int pa_nil)))) pa_nil)))
      (pe_lst (pa_cons pe_int (pa_cons pe_int pa_nil))) (nomark _)))), ?_⟩
  -- each cell
  refine q_forR1 (n := if (if ((ns.map V.int).length : Int) < 5 then ((ns.map V.int).length : Int) else 5) > 1 then (if ((ns.map V.int).length : Int) < 5 then ((ns.map V.int).length : Int) else 5) else 1) (ea_cons (ev_max2 ev_c (ev_min2 ev_c (ev_len' (ev_var (v := .ref a) rfl) hs))) ea_nil) (by constructor <;> (split <;> (try split) <;> omega))
    (fun i σ' H' => Ex H H' ∧ ∃ c1 c2 c3 c4 c5 c6 c9 c10 c11, σ' = [some (.ref a), c1, c2, c3, c4, c5, c6, none, none, c9, c10, c11]) (fun H1 e1 => ⟨e1, _, _, _, _, _, _, _, _, _, rfl⟩) ?_ ?_
  · rintro i σ' H1 hi ⟨e1, c1, c2, c3, c4, c5, c6, c9, c10, c11, rfl⟩
    have hi5 : i ≤ 100 := by
      have : (i : Int) < 5 ∨ (i : Int) < 1 := by
        revert hi
        split <;> (try split) <;> intro hi <;> omega
      omega
    -- the source
    refine q_asgE ?_
    refine call_in ?_
    refine (ea_cons (ev_var (v := .ref a) (i := 0) rfl) (ea_cons (ev_var (v := .int (i : Int)) (i := 1) rfl) ea_nil) : EvA _ [some (.ref a), some (.int (i : Int)), c2, c3, c4, c5, c6, none, none, c9, c10, c11] H1 [.ref a, .int (i : Int)]) H1 (Ex.refl _) _ fun H2 e2 => ?_
    have e02 := e1.trans e2
    refine ⟨a, ns, i, rfl, ex_l e02 hs, hi5, fun s H3 hs0 e3 S3 => ?_⟩
    -- the turns
    refine q_forR1 (n := 4) (ea_cons ev_c ea_nil) (by decide) (fun j σ' H' => Ex H2 H' ∧ Src H' s (300 * j) ∧ ∃ c3 c4 c5 c6, σ' = [some (.ref a), some (.int (i : Int)), some (.ref s), c3, c4, c5, c6, none, none, c9, c10, c11]) (fun H4 e4 => ⟨e3.trans e4, S3.ex e4, _, _, _, _, rfl⟩) ?_ ?_
    · rintro j σ' H4 hj ⟨e4, S4, c3', c4', c5', c6', rfl⟩
      -- an order
      obtain ⟨m, hm, hmI⟩ : ∃ m : Nat, m ≤ 30 ∧ atI [V.int 30, .int 12] (if decide (0 < (j : Int)) = true then 1 else 0) = some (.int (m : Int)) := by
        by_cases h : 0 < (j : Int)
        · exact ⟨12, by decide, by rw [decide_eq_true h, if_pos rfl]; rfl⟩
        · exact ⟨30, by decide, by rw [decide_eq_false h, if_neg Bool.false_ne_true]; rfl⟩
      refine q_asgE (e_order (m := m) rfl S4 (by omega) hm (ev_opL1 (xs := [.int 30, .int 12]) (el_lst (ea_cons ev_c (ea_cons ev_c ea_nil)) (by show 2 ≤ 100000; decide)) (fun H5 e5 => ev_int1 (b := decide (0 < (j : Int))) (ev_op (ev_var (v := .int (j : Int)) rfl) ev_c rv_I0)) fun q H5 h5 e5 => rv_ixL (SqL.of h5) hmI) fun p o H5 hp hps c5 S5 hl5 hO hol => ?_)
      -- polls
      refine q_asgE ?_
      refine call_in (cons_in ⟨.ref s, rfl, cons_in ⟨.ref p, rfl, ?_⟩⟩)
      refine ⟨s, p, 300 * j + 100, o, rfl, S5, by omega, hl5, by omega, hps, fun q ps H6 hq c6 S6 hl6 hP => ?_⟩
      have hqs : q ≠ s := fun z => by
        obtain ⟨i0, i1, i2, g, _⟩ := S5
        rw [z, g] at hq
        cases hq
      have hl56 := c6 _ _ hl5 (by simpa using hps)
      -- right?
      refine q_whenE ?_
      refine call_in (cons_in ⟨.ref s, rfl, cons_in ⟨.ref p, rfl, cons_in ⟨.ref q, rfl, ?_⟩⟩⟩)
      refine ⟨s, p, q, 300 * j + 100 + 100, o, ps, rfl, S6, by omega, hl56, hl6, hO, hP, hps, hqs, fun H7 c7 S7 => ⟨true, rfl, ?_⟩⟩
      refine if_no rfl ?_
      have hp7 := c7 _ _ hl56 (by simpa using hps)
      have hq7 := c7 _ _ hl6 (by simpa using hqs)
      refine call_in (cons_in ⟨.ref p, rfl, cons_in ⟨.ref q, rfl, ?_⟩⟩)
      refine ⟨p, q, o, ps, rfl, hp7, hq7, hO, hP, fun H8 e8 => ⟨true, rfl, ?_⟩⟩
      refine if_no rfl ?_
      -- quiet moments
      have hp8 := e8 _ _ hp7
      have hquiet : EvL (tSl (rSlL K) (tLc (iEnum K (tCons (tCall (spL 1 (preCounts K)) [] E0 (tCons (tVar 4) tNil)) tNil)) (gTup K 2 (gCons (gName 7) (gCons (gName 8) gNil))) (tTest (tOp rEq (tVar 8) (tC (.int 0)))) (tVar 7) [7, 8]) tNoPart (tPart (tC (.int 30))))
          [some (.ref a), some (.int (i : Int)), some (.ref s), some (.int (j : Int)), some (.ref p), some (.ref q), c6', none, none, c9, c10, c11] H8 (nums (quiet o)) := by
        refine el_to (el_slN (xs := ((List.range (o.length + 1)).filter fun q => decide ((Lm.rk o (Lm.topN o q) : Int) - (q : Int) = 0)).map fun q : Nat => V.int (q : Int)) (fun H9 e9 Q' k' => ?_) eo_none (eo_some (i := ((30 : Nat) : Int)) ev_c)) (by rw [cut_to, ← List.map_take]; rfl)
        refine (el_spL (ea_cons (ev_var (v := .ref p) (i := 4) rfl) ea_nil) rfl fun H10 e10 => ⟨p, o, rfl, SqL.of ((e9.trans e10) _ _ hp8), hO, rfl⟩ : EvL _ [some (.ref a), some (.int (i : Int)), some (.ref s), some (.int (j : Int)), some (.ref p), some (.ref q), c6', none, none, c9, c10, c11] H9 _) H9 (Ex.refl _) _ fun r H10 hr e10 h10 => ⟨r, _, rfl, SqL.of h10, fun D hD => ?_⟩
        have hrl : ((List.range (o.length + 1)).map fun q => V.int ((Lm.rk o (Lm.topN o q) : Int) - (q : Int))).length = o.length + 1 := by rw [List.length_map, List.length_range]
        refine lc_pure (n := o.length + 1) (hrl ▸ walk_enum (K := K) (a := r) (xs := (List.range (o.length + 1)).map fun q => V.int ((Lm.rk o (Lm.topN o q) : Int) - (q : Int))) : Walk _ (o.length + 1) _ _)
          (fun q => if decide ((Lm.rk o (Lm.topN o q) : Int) - (q : Int) = 0) = true then some (V.int (q : Int)) else none) hD (fun H' e' => SqL.of (e' _ _ h10)) (by have := hO.len; omega) ?_ fun H' e' h' => k' D H' (fresh_back e10 hD) (e10.trans e') (by rw [h', fm_flt])
        rintro u v H' H'' hu e' ⟨Tt, x, y, rfl, hT, rfl, hx, hy⟩
        cases hx
        have hy : ((List.range (o.length + 1)).map fun q => V.int ((Lm.rk o (Lm.topN o q) : Int) - (q : Int)))[u]? = some y := hy
        rw [List.getElem?_map, List.getElem?_range hu] at hy
        have hy2 : V.int ((Lm.rk o (Lm.topN o u) : Int) - (u : Int)) = y := Option.some.inj hy
        subst hy2
        generalize (Lm.rk o (Lm.topN o u) : Int) - (u : Int) = z
        have ht : EvT (tTest (tOp rEq (tVar 8) (tC (.int 0)))) [some (.ref a), some (.int (i : Int)), some (.ref s), some (.int (j : Int)), some (.ref p), some (.ref q), c6', some (.int (u : Nat)), some (.int z), c9, c10, c11] (upd H' Tt (.tup [.int (u : Nat), .int z])) (decide (z = 0)) :=
          et_is (et_test (ev_op (ev_var (v := .int z) rfl) (ev_c (v := .int 0)) (rv_eq rfl))) (decide_eq_decide.mpr ⟨fun h => by injection h, fun h => by rw [h]⟩)
        refine ⟨Ex.new hT, [some (.ref a), some (.int (i : Int)), some (.ref s), some (.int (j : Int)), some (.ref p), some (.ref q), c6', some (.int (u : Nat)), some (.int z), c9, c10, c11], rfl, fun Q q => g_pair upd_same q, fun w => ?_, fun v w => ?_⟩
        · cases hd : decide (z = 0) with
          | false => rw [hd] at ht; exact ht
          | true => rw [hd] at w; cases w
        · cases hd : decide (z = 0) with
          | false => rw [hd] at w; cases w
          | true =>
            rw [hd] at w
            cases w
            rw [hd] at ht
            exact ⟨ht, ev_var rfl⟩
      refine q_asgL (xs := nums (quiet o)) hquiet fun r H9 hr e9 h9 => ?_
      have hp9 := e9 _ _ hp8
      refine s_when (b := false) (et_is (et_test (ev_opLL (xs := (Lm.lostL o (quiet o)).map V.int) (ys := []) (el_spL (dvs := kw5) (ea_cons (ev_var (v := .ref p) rfl) (ea_cons (ev_var (v := .ref r) rfl) ea_nil)) rfl fun H10 e10 => ⟨p, r, o, quiet o, rfl, ⟨SqL.of (e10 _ _ hp9), SqL.of (e10 _ _ h9), hO, quiet_polls o⟩, rfl⟩) (el_lst ea_nil (by decide)) fun x y H10 hx hy e10 =>
        rv_neInts (ms := []) (SqL.of hx) (SqL.of hy))) (by rw [quiet_lost hO]; rfl)) (fun h => by cases h) fun _ H10 e10 => ?_
      have cc : Ch [s] H4 H10 := ((((c5.trans c6).trans c7).trans (Ch.of e8)).trans (Ch.of e9)).trans (Ch.of e10)
      exact ⟨ex_ch e4 cc fun x hx => by rw [List.mem_singleton.mp hx]; exact hs0, (((S7.ex e8).ex e9).ex e10).le (by omega), _, _, _, _, rfl⟩
    rintro σ' H4 ⟨e4, S4, c3', c4', c5', c6', rfl⟩
    refine q_asgE (e_order (m := 5) rfl S4 (by show 300 * 4 ≤ 10000; decide) (by decide) ev_c fun p o H5 hp hps c5 S5 hl5 hO hol => ?_)
    have e5 : Ex H2 H5 := ex_ch e4 c5 fun x hx => by rw [List.mem_singleton.mp hx]; exact hs0
    have hlen : ∀ {σ : L2.St} {H : Hp}, σ[9]? = some (some (.ref p)) → H p = some (.lst (o.map V.int)) → Ev (tOp (rI0 fun i j => .int (i + j)) (tCB (fun xs H Q => ∃ p ys, xs = [.ref p] ∧ (SqL K H p ys ∨ SqT K H p ys) ∧ Q (.int ys.length) H) (tCons (tVar 9) tNil)) (tC (.int 1))) σ H (.int ((o.length + 1 : Nat) : Int)) := fun h1 h2 =>
      ev_to (ev_op (ev_len' (ev_var (v := .ref p) h1) (SqL.of h2)) ev_c rv_I0) (by rw [List.length_map]; rfl)
    refine s_forR1 (n := ((o.length + 1 : Nat) : Int)) (ea_cons (hlen rfl hl5) ea_nil) (by omega) (fun x σ' H' => Ex H2 H' ∧ H' p = some (.lst (o.map V.int)) ∧ Src H' s (3000 + 10 * x) ∧ ∃ c10 c11, σ' = [some (.ref a), some (.int (i : Int)), some (.ref s), c3', c4', c5', c6', none, none, some (.ref p), c10, c11])
      (fun H6 e6 => ⟨e5.trans e6, e6 _ _ hl5, (S5.ex e6).le (by show 300 * 4 + 100 ≤ _; omega), _, _, rfl⟩) ?_ ?_
    · rintro x σ' H6 hx ⟨e6, hl6, S6, c10', c11', rfl⟩
      refine s_forR2 (lo := (x : Int)) (n := ((o.length + 1 : Nat) : Int)) (ea_cons (ev_var (v := .int (x : Int)) rfl) (ea_cons (hlen rfl hl6) ea_nil)) (by omega) (fun y σ' H' => Ex H2 H' ∧ H' p = some (.lst (o.map V.int)) ∧ Src H' s (3000 + 10 * x + y) ∧ ∃ c11, σ' = [some (.ref a), some (.int (i : Int)), some (.ref s), c3', c4', c5', c6', none, none, some (.ref p), some (.int (x : Int)), c11])
        (fun H7 e7 => ⟨e6.trans e7, e7 _ _ hl6, S6.ex e7, _, rfl⟩) ?_ ?_
      · rintro y σ' H7 hy ⟨e7, hl7, S7, c11'', rfl⟩
        refine s_whenE ?_
        refine call_in (cons_in ⟨.ref s, rfl, cons_in ⟨.ref p, rfl, cons_in ?_⟩⟩)
        refine (el_lst (ea_cons (ev_var (v := .int (x : Int)) (i := 10) rfl) (ea_cons (ev_to (ev_var (v := .int ((x : Int) + (y : Int))) (i := 11) rfl) (show V.int ((x : Int) + (y : Int)) = V.int ((x + y : Nat) : Int) by rw [Int.natCast_add])) ea_nil)) (by show 2 ≤ 100000; decide) :
          EvL _ [some (.ref a), some (.int (i : Int)), some (.ref s), c3', c4', c5', c6', none, none, some (.ref p), some (.int (x : Int)), some (.int ((x : Int) + (y : Int)))] H7 (nums [x, x + y])) H7 (Ex.refl _) _ fun q H8 hq e8 h8 => ?_
        have hqs : q ≠ s := fun z => by
          obtain ⟨i0, i1, i2, g, _⟩ := S7
          rw [z, g] at hq
          cases hq
        refine ⟨s, p, q, 3000 + 10 * x + y, o, [x, x + y], rfl, S7.ex e8, by omega, e8 _ _ hl7, h8, hO, two_polls (by omega) (by omega), hps, hqs, fun H9 c9' S9 => ⟨true, rfl, ?_⟩⟩
        refine if_no rfl ?_
        exact ⟨ex_ch (e7.trans e8) c9' fun z hz => by rw [List.mem_singleton.mp hz]; exact hs0, c9' _ _ (e8 _ _ hl7) (by simpa using hps), S9, _, rfl⟩
      · rintro σ' H7 ⟨e7, hl7, S7, c11'', rfl⟩
        exact ⟨e7, hl7, S7.le (by omega), _, _, rfl⟩
    · rintro σ' H6 ⟨e6, hl6, S6, c10', c11', rfl⟩
      exact ⟨e02.trans e6, _, _, _, _, _, _, _, _, _, rfl⟩
  · rintro σ' H1 ⟨e1, c1, c2, c3, c4, c5, c6, c9, c10, c11, rfl⟩
    refine ret_in ?_
    refine call_in (cons_in ?_)
    refine (el_lst (ea_cons ev_c (ea_cons ev_c (ea_cons ev_c (ea_cons ev_c (ea_cons ev_c (ea_cons ev_c (ea_cons ev_c ea_nil))))))) (by show 7 ≤ 100000; decide) : EvL _ [some (.ref a), c1, c2, c3, c4, c5, c6, none, none, c9, c10, c11] H1 (([2, 1, 4, 5, 3, 7, 6] : List Int).map V.int)) H1 (Ex.refl _) _ fun p H2 hp e2 h2 => cons_in ?_
    refine (el_lst (ea_cons ev_c (ea_cons ev_c (ea_cons ev_c ea_nil))) (by show 3 ≤ 100000; decide) : EvL _ [some (.ref a), c1, c2, c3, c4, c5, c6, none, none, c9, c10, c11] H2 (nums [1, 4, 7])) H2 (Ex.refl _) _ fun q H3 hq e3 h3 => ?_
    refine ⟨rfl, _, ⟨p, q, [2, 1, 4, 5, 3, 7, 6], [1, 4, 7], rfl, ⟨SqL.of (e3 _ _ h2), SqL.of h3, toy_ord, toy_polls⟩, rfl⟩, fun r H4 hr e4 h4 => ?_⟩
    rw [toy_lost] at h4
    refine (el_lst (ea_cons ev_c (ea_cons ev_c ea_nil)) (by show 2 ≤ 100000; decide) : EvL _ [some (.ref a), c1, c2, c3, c4, c5, c6, none, none, c9, c10, c11] H4 (([1, 3] : List Int).map V.int)) H4 (Ex.refl _) _ fun u H5 hu e5 h5 => ?_
    exact rv_eqInts (ns := [1, 3]) (ms := [1, 3]) (SqL.of (e5 _ _ h4)) (SqL.of h5) H5 (Ex.refl _) _ fun H6 e6 => k H6
end
end Lp

/-! ## V23 -/
set_option Elab.async false
set_option linter.all false
set_option maxRecDepth 100000
set_option maxHeartbeats 4000000
/-! The end. -/
namespace Lp
open PySem PySem.Spec PyProof.Rows L2
theorem facts {P : Program} {w : World} {K : PySem.W.Frag} {h : Heap} {mg : Str → Option Value} {f : Addr} (X : K.In h) (G : h.Ns mainGlobals mg) (hfa : mg ("law" : Str) = some (.ref f)) (c : He.SaysD Lh.fa Lh.fn K) :
    ∃ fd : FuncData, (∀ (s : Shared) (v : Value), BindsTo s fd ⟨[v], []⟩ [("_law_script", v)]) ∧ ∀ base : Heap, K.In base → base.Ns mainGlobals mg → FnOk P w K mg base CX0 10 f fd ["_law_script"] (spLaw K) := by
  have T : Facts K mg := ⟨⟨h, X, G⟩, c⟩
  obtain ⟨fd, F⟩ := T.fn 44
  have e := hfa.symm.trans (T.glo 31)
  cases e
  have b := FunD.bindsA (ps := ["_law_script"]) F fun _ _ _ _ _ _ us hl => match us, hl with | [_], _ => rfl
  exact ⟨fd, fun s v => b s [v] rfl, fun base _ _ => fn_law T F⟩
end Lp
open PySem PySem.W PySem.Calls PyProof.Rows
theorem PySem.Challenge.cw_lateids_k67_whole_losses_of_plain_reader_holds : PySem.Challenge.rw_lateids_k67_whole_losses_of_plain_reader.Holds := by
  w_on; o_law
  refine HandSHeadRun.head_any (r := OpenLaw.row PySem.Challenge.rw_lateids_k67_whole_losses_of_plain_reader) (q := view (OpenLaw.row PySem.Challenge.rw_lateids_k67_whole_losses_of_plain_reader).prog [69]) (H := Lh.hk) (ob := Lh.ob) (M := 8000) (loose := Lh.names) (d := HandSHeadRun.topDef (OpenLaw.row PySem.Challenge.rw_lateids_k67_whole_losses_of_plain_reader).prog 69) (kwd := []) Lh.ob_eq
    (by kernel_rfl) (fun s => by kernel_rfl) Lh.run (by kernel_rfl) (by kernel_rfl) (by kernel_rfl) (by rfl) (by first | assumption | decide +kernel) (by decide +kernel) ⟨rfl, rfl, rfl, rfl, rfl, by decide +kernel⟩ ?hw ?hc
  case hw => w_witness2
  case hc =>
    refine L2.walk_ofE (l := PySem.Challenge.rw_lateids_k67_whole_losses_of_plain_reader) (n := 63) (k := 10) (x := "_law_script") (CX := L2.CX0) rfl (by decide) (by kernel_rfl) ⟨rfl, by decide, by decide⟩ ?F (fun _ _ _ _ z => z)
    intro w mg fa h Y G hmg0
    obtain ⟨K, KX, c⟩ := Y
    have hmg : mg ("law" : PySem.Str) = some (.ref fa) := by
      have e : (HandSHeadRun.topDef (OpenLaw.row PySem.Challenge.rw_lateids_k67_whole_losses_of_plain_reader).prog 69).name = ("law" : PySem.Str) := by kernel_rfl
      rw [← e]
      exact hmg0
    obtain ⟨fd, hb, hF⟩ := Lp.facts (P := (PySem.Challenge.rw_lateids_k67_whole_losses_of_plain_reader).prog) (w := w) KX G hmg c
    exact ⟨K, fd, Lp.spLaw K, KX, hb, fun H a ns hl _ hS => ⟨a, ns, rfl, hS, fun _ => rfl⟩, hF⟩
