import PyProof.Rows.All
import Wide.All
import OpenK.AllK
import Wide.FinOn
import HandS.ForMost
import HandS.SortRule
import HandS.NamedTupSort
import HandS.SetFor
import HandS.Strs
import HandS.Conv
import KE.KDictDisplayH
import KE.GoesMore
import KE.GoesEnum
import KE.DataMinMax
import KE.SortData
import HandS.Evl
import HandS.Walk
import HandS.Codes
import HandS.Deep
import HandS.IsInst
import HandS.TupAny
import HandS.Star
import HandS.SortInts
import PySem.Challenge.RW_tallsits_k87_whole_weights_of_callers
import HandS.Style
set_option linter.all false
set_option autoImplicit false
namespace K87
/-! ### the mirror -/
abbrev Rw := List Int
abbrev Wb := List (List Int)
def fr (w : Wb) (p : Int) : Rw := w.getD p.toNat []
structure WebOk (w : Wb) : Prop where
  pos : 1 ≤ w.length
  le : w.length ≤ 7
  asc : ∀ r ∈ w, r.Pairwise (· < ·)
  rng : ∀ r ∈ w, ∀ x ∈ r, 0 ≤ x ∧ x < (w.length : Int)
  irr : ∀ i : Int, i ∉ fr w i
  sym : ∀ i j : Int, 0 ≤ i → i < (w.length : Int) → j ∈ fr w i → i ∈ fr w j
structure SetOk (w : Wb) (s : Rw) : Prop where
  asc : s.Pairwise (· < ·)
  rng : ∀ x ∈ s, 0 ≤ x ∧ x < (w.length : Int)
def callIn (w : Wb) (s : Rw) (p : Int) : Rw := if p ∈ s then s.filter (fun o => decide (p ≤ o) || !decide (o ∈ fr w p)) else s
def mover (w : Wb) (s : Rw) (p : Int) : Bool := (fr w p).any (fun o => decide (o < p) && decide (o ∈ s))
def moversIn (w : Wb) (s : Rw) : Rw := s.filter (mover w s)
def mayB (w : Wb) (g : Rw) (p : Int) : Bool := !(fr w p).any (fun o => decide (o < p) && decide (o ∈ g))
def mayCall (w : Wb) (s g : Rw) : Rw := s.filter (mayB w g)
def tallerIn (w : Wb) (p : Int) : Rw := (fr w p).filter (fun o => decide (p < o))
def fits (w : Wb) (s g : Rw) : Bool := g.all (fun p => decide (p ∈ s)) && (s.filter (fun p => !decide (p ∈ g))).all (fun p => (tallerIn w p).any (fun o => decide (o ∈ mayCall w s g)))
def apart (w : Wb) (l : Rw) : Bool := !(l.any fun a => l.any fun b => decide (b ∈ fr w a))
def choices (l : Rw) : List Rw := l.foldl (fun acc p => acc ++ acc.map (· ++ [p])) [[]]
def after (w : Wb) (s row : Rw) : Rw := row.foldl (callIn w) s
def leads (w : Wb) (s g row : Rw) : Bool := decide (after w s row = g)
def okB (w : Wb) (R : Rw) (p : Int) : Bool := !(fr w p).any (fun o => decide (p < o) && decide (o ∈ R))
def toldIn (w : Wb) (s people : Rw) : Rw := s.filter (okB w (people.filter (fun q => decide (q ∈ s))))
def wt (pr : List Int) (row : Rw) : Int := (row.map (fun p => pr.getD p.toNat 0)).sum
inductive Reach (w : Wb) (s : Rw) : Rw → Prop
  | base : Reach w s s
  | step {h : Rw} {p : Int} : Reach w s h → p ∈ moversIn w h → Reach w s (callIn w h p)
def Tell (w : Wb) (s g row : Rw) : Prop := row.Sublist (mayCall w s g) ∧ after w s row = g
def IsEnd (w : Wb) (s e : Rw) : Prop := e.Sublist s ∧ apart w e = true ∧ fits w s e = true
structure Best (w : Wb) (s g : Rw) (pr : List Int) (c : Int) (row : Rw) : Prop where
  tell : Tell w s g row
  cost : c = wt pr row
  least : ∀ r, Tell w s g r → c ≤ wt pr r

/-! ### lists -/
theorem nodup_asc {s : Rw} (h : s.Pairwise (· < ·)) : s.Nodup := h.imp fun a e => by omega
theorem sub_asc {g s : Rw} (h : g.Sublist s) (a : s.Pairwise (· < ·)) : g.Pairwise (· < ·) := a.sublist h
theorem SetOk.sub {w : Wb} {g s : Rw} (h : SetOk w s) (hs : g.Sublist s) : SetOk w g := ⟨sub_asc hs h.asc, fun x hx => h.rng x (hs.subset hx)⟩
theorem filter_mem_sub {g s : Rw} (h : g.Sublist s) (nd : s.Nodup) : s.filter (fun p => decide (p ∈ g)) = g := by
  induction h with
  | slnil => rfl
  | @cons l1 l2 a hs ih =>
    have n2 := List.nodup_cons.mp nd
    rw [List.filter_cons_of_neg]
    · exact ih n2.2
    · simp only [decide_eq_true_eq]
      exact fun hm => n2.1 (hs.subset hm)
  | @cons_cons l1 l2 a hs ih =>
    have n2 := List.nodup_cons.mp nd
    rw [List.filter_cons_of_pos (by simp)]
    congr 1
    have e : l2.filter (fun p => decide (p ∈ a :: l1)) = l2.filter (fun p => decide (p ∈ l1)) := by
      refine List.filter_congr fun x hx => ?_
      have : x ≠ a := fun e => n2.1 (e ▸ hx)
      simp [this]
    rw [e]
    exact ih n2.2
theorem sorted_ext : ∀ {a b : Rw}, a.Pairwise (· < ·) → b.Pairwise (· < ·) → (∀ x, x ∈ a ↔ x ∈ b) → a = b
  | [], [], _, _, _ => rfl
  | [], y :: b, _, _, h => absurd ((h y).mpr (by simp)) (by simp)
  | x :: a, [], _, _, h => absurd ((h x).mp (by simp)) (by simp)
  | x :: a, y :: b, ha, hb, h => by
    have pa := List.pairwise_cons.mp ha
    have pb := List.pairwise_cons.mp hb
    have e : x = y := by
      rcases List.mem_cons.mp ((h x).mp (by simp)) with e | hx
      · exact e
      · rcases List.mem_cons.mp ((h y).mpr (by simp)) with e | hy
        · exact e.symm
        · have h1 := pb.1 x hx
          have h2 := pa.1 y hy
          omega
    subst e
    congr 1
    refine sorted_ext pa.2 pb.2 fun z => ?_
    constructor
    · intro hz
      have h1 := pa.1 z hz
      rcases List.mem_cons.mp ((h z).mp (List.mem_cons_of_mem _ hz)) with e | q
      · omega
      · exact q
    · intro hz
      have h1 := pb.1 z hz
      rcases List.mem_cons.mp ((h z).mpr (List.mem_cons_of_mem _ hz)) with e | q
      · omega
      · exact q
theorem sum_perm {a b : List Int} (h : a.Perm b) : a.sum = b.sum := by
  induction h with
  | nil => rfl
  | cons x _ ih => simp [ih]
  | swap x y l => simp only [List.sum_cons]; omega
  | trans _ _ i1 i2 => exact i1.trans i2
theorem sum_nonneg : ∀ {l : Rw} {f : Int → Int}, (∀ x ∈ l, 0 ≤ f x) → 0 ≤ (l.map f).sum
  | [], _, _ => by simp
  | a :: l, f, h => by
    have h1 := sum_nonneg (l := l) (f := f) fun x hx => h x (List.mem_cons_of_mem _ hx)
    have h2 := h a (by simp)
    simp only [List.map_cons, List.sum_cons]
    omega
theorem sum_le_of_subset {f : Int → Int} : ∀ {A B : Rw}, A.Nodup → (∀ x ∈ A, x ∈ B) → (∀ x ∈ B, 0 ≤ f x) → (A.map f).sum ≤ (B.map f).sum
  | [], B, _, _, hf => sum_nonneg hf
  | a :: A, B, nd, hs, hf => by
    have n2 := List.nodup_cons.mp nd
    have hp : B.Perm (a :: B.erase a) := List.perm_cons_erase (hs a (by simp))
    have e := sum_perm (hp.map f)
    have ih := sum_le_of_subset (f := f) (A := A) (B := B.erase a) n2.2 (fun x hx => (List.mem_erase_of_ne (fun e => n2.1 (by rw [← e]; exact hx))).mpr (hs x (List.mem_cons_of_mem _ hx)))
      fun x hx => hf x (List.mem_of_mem_erase hx)
    simp only [List.map_cons, List.sum_cons] at e ⊢
    omega
theorem sum_len : ∀ {l : Rw} {f : Int → Int}, (∀ x ∈ l, 1 ≤ f x) → (l.length : Int) ≤ (l.map f).sum
  | [], _, _ => by simp
  | a :: l, f, h => by
    have h1 := sum_len (l := l) (f := f) fun x hx => h x (List.mem_cons_of_mem _ hx)
    have h2 := h a (by simp)
    simp only [List.map_cons, List.sum_cons, List.length_cons]
    omega
theorem sum_le_pt : ∀ {l : Rw} {f g : Int → Int}, (∀ x ∈ l, f x ≤ g x) → (l.map f).sum ≤ (l.map g).sum
  | [], _, _, _ => by simp
  | a :: l, f, g, h => by
    have h1 := sum_le_pt (l := l) (f := f) (g := g) fun x hx => h x (List.mem_cons_of_mem _ hx)
    have h2 := h a (by simp)
    simp only [List.map_cons, List.sum_cons]
    omega
theorem sum_without {f : Int → Int} : ∀ {l : Rw} {p : Int}, l.Nodup → p ∈ l → ((l.filter (fun x => !decide (x = p))).map f).sum + f p = (l.map f).sum
  | [], p, _, h => by simp at h
  | a :: l, p, nd, h => by
    have n2 := List.nodup_cons.mp nd
    by_cases e : a = p
    · subst e
      have e2 : (a :: l).filter (fun x => !decide (x = a)) = l := by
        rw [List.filter_cons_of_neg (by simp)]
        refine List.filter_eq_self.mpr fun x hx => ?_
        have : x ≠ a := fun e => n2.1 (e ▸ hx)
        simp [this]
      rw [e2]
      simp only [List.map_cons, List.sum_cons]
      omega
    · have hp : p ∈ l := by
        rcases List.mem_cons.mp h with q | q
        · exact absurd q.symm e
        · exact q
      have ih := sum_without (f := f) n2.2 hp
      rw [List.filter_cons_of_pos (by simp [e])]
      simp only [List.map_cons, List.sum_cons]
      omega
/-- a function that differs at one place -/
theorem sum_at {f g : Int → Int} {p : Int} (h : ∀ x, x ≠ p → f x = g x) : ∀ {l : Rw}, l.Nodup → (l.map f).sum = (l.map g).sum + (if p ∈ l then f p - g p else 0)
  | [], _ => by simp
  | a :: l, nd => by
    have n2 := List.nodup_cons.mp nd
    have ih := sum_at h (l := l) n2.2
    simp only [List.map_cons, List.sum_cons]
    by_cases e : a = p
    · subst e
      rw [if_neg n2.1] at ih
      rw [if_pos (by simp)]
      omega
    · have hx := h a e
      by_cases hp : p ∈ l
      · rw [if_pos hp] at ih
        rw [if_pos (List.mem_cons_of_mem _ hp)]
        omega
      · rw [if_neg hp] at ih
        rw [if_neg (by simp only [List.mem_cons, not_or]; exact ⟨fun q => e q.symm, hp⟩)]
        omega
/-! ### choices -/
theorem choices_snoc (l : Rw) (p : Int) : choices (l ++ [p]) = choices l ++ (choices l).map (· ++ [p]) := by
  unfold choices
  rw [List.foldl_append]
  rfl
theorem snoc_ind {P : Rw → Prop} (h0 : P []) (h1 : ∀ l p, P l → P (l ++ [p])) (l : Rw) : P l := by
  have : ∀ m : Rw, P m.reverse := by
    intro m
    induction m with
    | nil => exact h0
    | cons a m ih => rw [List.reverse_cons]; exact h1 _ _ ih
  have h := this l.reverse
  rwa [List.reverse_reverse] at h
theorem mem_choices (l : Rw) : ∀ row, row ∈ choices l ↔ row.Sublist l := by
  induction l using snoc_ind with
  | h0 => intro row; show row ∈ [[]] ↔ _; simp
  | h1 l p ih =>
    intro row
    rw [choices_snoc, List.mem_append, List.mem_map, ih, List.sublist_append_iff]
    constructor
    · rintro (h | ⟨r, hr, rfl⟩)
      · exact ⟨row, [], by simp, h, List.nil_sublist _⟩
      · exact ⟨r, [p], rfl, (ih r).mp hr, List.Sublist.refl _⟩
    · rintro ⟨l1, l2, rfl, h1, h2⟩
      rcases l2 with _ | ⟨a, t⟩
      · left; simpa using h1
      · right
        have e : a :: t = [p] := by
          have hl := h2.length_le
          have : t = [] := by
            cases t with
            | nil => rfl
            | cons b t => simp at hl
          subst this
          have := h2.subset (List.mem_cons_self)
          simp at this
          rw [this]
        rw [e]
        exact ⟨l1, (ih l1).mpr h1, rfl⟩
theorem choices_len (l : Rw) : (choices l).length = 2 ^ l.length := by
  induction l using snoc_ind with
  | h0 => rfl
  | h1 l p ih =>
    rw [choices_snoc, List.length_append, List.length_map, ih, List.length_append, List.length_singleton, Nat.pow_succ]
    omega
theorem choices_step (l : Rw) (i : Nat) (h : i < l.length) : choices (l.take (i + 1)) = choices (l.take i) ++ (choices (l.take i)).map (· ++ [l[i]]) := by
  rw [← choices_snoc, List.take_add_one, List.getElem?_eq_getElem h]
  rfl
/-! ### order of calls, fits -/
theorem fits_iff {w : Wb} {s g : Rw} : fits w s g = true ↔ (∀ p ∈ g, p ∈ s) ∧ ∀ x ∈ s, x ∉ g → ∃ y ∈ fr w x, x < y ∧ y ∈ s ∧ ∀ z ∈ fr w y, z < y → z ∉ g := by
  unfold fits
  simp only [Bool.and_eq_true, List.all_eq_true, decide_eq_true_eq, List.any_eq_true, tallerIn, mayCall, mayB, List.mem_filter, Bool.not_eq_true', decide_eq_false_iff_not, List.any_eq_false]
  constructor
  · rintro ⟨h1, h2⟩
    refine ⟨h1, fun x hx hg => ?_⟩
    obtain ⟨y, ⟨hy1, hy2⟩, hy3, hy4⟩ := h2 x ⟨hx, hg⟩
    refine ⟨y, hy1, hy2, hy3, fun z hz hzy hzg => ?_⟩
    exact hy4 z hz ⟨hzy, hzg⟩
  · rintro ⟨h1, h2⟩
    refine ⟨h1, fun x hx => ?_⟩
    obtain ⟨y, hy1, hy2, hy3, hy4⟩ := h2 x hx.1 hx.2
    exact ⟨y, ⟨hy1, hy2⟩, hy3, fun z hz q => hy4 z hz q.1 q.2⟩
theorem mem_may {w : Wb} {s g : Rw} {p : Int} : p ∈ mayCall w s g ↔ p ∈ s ∧ ∀ o ∈ fr w p, o < p → o ∉ g := by
  unfold mayCall mayB
  simp only [List.mem_filter, Bool.not_eq_true', List.any_eq_false, Bool.and_eq_true, decide_eq_true_eq]
  constructor
  · rintro ⟨h1, h2⟩
    exact ⟨h1, fun o ho hl hg => h2 o ho ⟨hl, hg⟩⟩
  · rintro ⟨h1, h2⟩
    exact ⟨h1, fun o ho q => h2 o ho q.1 q.2⟩
theorem okB_iff {w : Wb} {R : Rw} {p : Int} : okB w R p = true ↔ ∀ o ∈ fr w p, p < o → o ∉ R := by
  unfold okB
  simp only [Bool.not_eq_true', List.any_eq_false, Bool.and_eq_true, decide_eq_true_eq]
  constructor
  · intro h o ho hl hg
    exact h o ho ⟨hl, hg⟩
  · intro h o ho q
    exact h o ho q.1 q.2
theorem call_sub (w : Wb) (s : Rw) (p : Int) : (callIn w s p).Sublist s := by
  unfold callIn
  split
  · exact List.filter_sublist
  · exact List.Sublist.refl s
theorem reach_sub {w : Wb} {s g : Rw} (h : Reach w s g) : g.Sublist s := by
  induction h with
  | base => exact List.Sublist.refl s
  | step _ _ ih => exact (call_sub w _ _).trans ih
theorem mem_call {w : Wb} {s : Rw} {p x : Int} (hp : p ∈ s) : x ∈ callIn w s p ↔ x ∈ s ∧ (p ≤ x ∨ x ∉ fr w p) := by
  unfold callIn
  rw [if_pos hp, List.mem_filter]
  simp
theorem mem_movers {w : Wb} {s : Rw} {p : Int} : p ∈ moversIn w s ↔ p ∈ s ∧ ∃ o ∈ fr w p, o < p ∧ o ∈ s := by
  unfold moversIn mover
  simp [List.mem_filter]
theorem mover_less {w : Wb} {s : Rw} {p : Int} (h : p ∈ moversIn w s) : (callIn w s p).length < s.length := by
  obtain ⟨hp, o, ho, hlt, hos⟩ := mem_movers.mp h
  rcases Nat.lt_or_ge (callIn w s p).length s.length with q | q
  · exact q
  · have e := (call_sub w s p).eq_of_length_le q
    have : o ∈ callIn w s p := by rw [e]; exact hos
    have := (mem_call hp).mp this
    rcases this.2 with q | q
    · omega
    · exact absurd ho q
variable {w : Wb} {s g : Rw}
theorem reach_fits (hw : WebOk w) (hs : SetOk w s) (h : Reach w s g) : fits w s g = true := by
  rw [fits_iff]
  induction h with
  | base => exact ⟨fun p hp => hp, fun x hx q => absurd hx q⟩
  | @step h p hr hm ih =>
    have sub := reach_sub hr
    have hp := (mem_movers.mp hm).1
    refine ⟨fun q hq => ih.1 q ((call_sub w h p).subset hq), fun x hx hg => ?_⟩
    by_cases hh : x ∈ h
    · have hx2 : x < p ∧ x ∈ fr w p := by
        refine Classical.byContradiction fun c => hg ((mem_call hp).mpr ⟨hh, ?_⟩)
        by_cases e : x ∈ fr w p
        · left
          have : ¬ x < p := fun q => c ⟨q, e⟩
          omega
        · exact .inr e
      have hps := ih.1 p hp
      have rp := hs.rng p hps
      refine ⟨p, hw.sym p x rp.1 rp.2 hx2.2, hx2.1, hps, fun z hz hzp hzg => ?_⟩
      have := (mem_call hp).mp hzg
      rcases this.2 with q | q
      · omega
      · exact q hz
    · obtain ⟨y, h1, h2, h3, h4⟩ := ih.2 x hx hh
      exact ⟨y, h1, h2, h3, fun z hz hl hzg => h4 z hz hl ((call_sub w h p).subset hzg)⟩
/-- the calls of an ascending row, at a stroke -/
theorem after_from (hw : WebOk w) (hs : SetOk w s) : ∀ (row done : Rw), (done ++ row).Pairwise (· < ·) → (∀ p ∈ row, p ∈ s) → row.foldl (callIn w) (s.filter (okB w done)) = s.filter (okB w (done ++ row))
  | [], done, _, _ => by simp
  | p :: row, done, ha, hm => by
    have hps : p ∈ s := hm p (by simp)
    have rp := hs.rng p hps
    have hp : p ∈ s.filter (okB w done) := by
      refine List.mem_filter.mpr ⟨hps, okB_iff.mpr fun o ho hl hd => ?_⟩
      have := (List.pairwise_append.mp ha).2.2 o hd p (by simp)
      omega
    have e : callIn w (s.filter (okB w done)) p = s.filter (okB w (done ++ [p])) := by
      unfold callIn
      rw [if_pos hp, List.filter_filter]
      refine List.filter_congr fun x hx => ?_
      have rx := hs.rng x hx
      rw [Bool.eq_iff_iff]
      simp only [Bool.and_eq_true, Bool.or_eq_true, decide_eq_true_eq, Bool.not_eq_true', decide_eq_false_iff_not, okB_iff]
      constructor
      · rintro ⟨h1, h2⟩ o ho hl hd
        rcases List.mem_append.mp hd with q | q
        · exact h2 o ho hl q
        · have : o = p := by simpa using q
          subst this
          rcases h1 with h1 | h1
          · omega
          · exact h1 (hw.sym x o rx.1 rx.2 ho)
      · intro h
        refine ⟨?_, fun o ho hl hd => h o ho hl (List.mem_append_left _ hd)⟩
        by_cases hl : p ≤ x
        · exact .inl hl
        · right
          intro hx2
          exact h p (hw.sym p x rp.1 rp.2 hx2) (by omega) (by simp)
    rw [List.foldl_cons, e]
    have := after_from hw hs row (done ++ [p]) (by rw [List.append_assoc]; exact ha) (fun q hq => hm q (List.mem_cons_of_mem _ hq))
    rw [this, List.append_assoc]
    rfl
theorem after_eq (hw : WebOk w) (hs : SetOk w s) {row : Rw} (hr : row.Sublist s) : after w s row = s.filter (okB w row) := by
  have h := after_from hw hs row [] (by rw [List.nil_append]; exact sub_asc hr hs.asc) (fun p hp => hr.subset hp)
  have e : s.filter (okB w []) = s := List.filter_eq_self.mpr fun x _ => okB_iff.mpr fun o _ _ q => by simp at q
  rw [e, List.nil_append] at h
  exact h
theorem may_sub : (mayCall w s g).Sublist s := List.filter_sublist
theorem tell_iff (hw : WebOk w) (hs : SetOk w s) {row : Rw} : Tell w s g row ↔ row.Sublist s ∧ (∀ p ∈ row, ∀ o ∈ fr w p, o < p → o ∉ g) ∧ s.filter (okB w row) = g := by
  constructor
  · rintro ⟨h1, h2⟩
    have sub := h1.trans may_sub
    exact ⟨sub, fun p hp => (mem_may.mp (h1.subset hp)).2, by rw [← after_eq hw hs sub]; exact h2⟩
  · rintro ⟨h1, h2, h3⟩
    refine ⟨?_, by rw [after_eq hw hs h1]; exact h3⟩
    have e : row.filter (mayB w g) = row := List.filter_eq_self.mpr fun x hx => by
      have : x ∈ mayCall w s g := mem_may.mpr ⟨h1.subset hx, h2 x hx⟩
      exact (List.mem_filter.mp this).2
    have := h1.filter (mayB w g)
    rw [e] at this
    exact this
theorem free_tell (hw : WebOk w) (hs : SetOk w s) (hg : g.Sublist s) (hf : fits w s g = true) : Tell w s g (mayCall w s g) := by
  obtain ⟨f1, f2⟩ := fits_iff.mp hf
  refine (tell_iff hw hs).mpr ⟨may_sub, fun p hp => (mem_may.mp hp).2, ?_⟩
  rw [← filter_mem_sub hg (nodup_asc hs.asc)]
  refine List.filter_congr fun x hx => ?_
  have rx := hs.rng x hx
  rw [Bool.eq_iff_iff, decide_eq_true_eq, okB_iff]
  rw [filter_mem_sub hg (nodup_asc hs.asc)]
  constructor
  · intro h
    refine Classical.byContradiction fun c => ?_
    obtain ⟨y, h1, h2, h3, h4⟩ := f2 x hx c
    exact h y h1 h2 (mem_may.mpr ⟨h3, h4⟩)
  · intro hxg o ho hl hm
    have := (mem_may.mp hm).2 x (hw.sym x o rx.1 rx.2 ho) hl
    exact this hxg
theorem tell_asc (hs : SetOk w s) {row : Rw} (h : Tell w s g row) : row.Pairwise (· < ·) := sub_asc (h.1.trans may_sub) hs.asc
theorem tell_sub {row : Rw} (h : Tell w s g row) : row.Sublist s := h.1.trans may_sub
theorem told_eq (hw : WebOk w) (hs : SetOk w s) {row : Rw} (h : Tell w s g row) : toldIn w s row = g := by
  obtain ⟨h1, _, h3⟩ := (tell_iff hw hs).mp h
  unfold toldIn
  have e : row.filter (fun q => decide (q ∈ s)) = row := List.filter_eq_self.mpr fun x hx => by simpa using h1.subset hx
  rw [e]
  exact h3
/-! ### weights -/
structure PrOk (w : Wb) (pr : List Int) (lo hi : Int) : Prop where
  len : pr.length = w.length
  rng : ∀ x ∈ pr, lo ≤ x ∧ x ≤ hi
theorem PrOk.at {pr : List Int} {lo hi : Int} (h : PrOk w pr lo hi) {x : Int} (h0 : 0 ≤ x) (h1 : x < (w.length : Int)) : lo ≤ pr.getD x.toNat 0 ∧ pr.getD x.toNat 0 ≤ hi := by
  have hl : x.toNat < pr.length := by rw [h.len]; omega
  rw [List.getD_eq_getElem?_getD, List.getElem?_eq_getElem hl]
  exact h.rng _ (List.getElem_mem hl)
variable {pr : List Int} {lo hi : Int}
theorem wt_mono (hs : SetOk w s) (hp : PrOk w pr lo hi) (h0 : 0 ≤ lo) {A B : Rw} (ha : A.Nodup) (hab : ∀ x ∈ A, x ∈ B) (hb : ∀ x ∈ B, x ∈ s) : wt pr A ≤ wt pr B :=
  sum_le_of_subset ha hab fun x hx => by
    have r := hs.rng x (hb x hx)
    have := hp.at r.1 r.2
    omega
/-- all in all rows -/
def mustIn (s : Rw) (T : List Rw) : Rw := s.filter (fun p => T.all fun r => decide (p ∈ r))
theorem mem_must {T : List Rw} {p : Int} : p ∈ mustIn s T ↔ p ∈ s ∧ ∀ r ∈ T, p ∈ r := by
  unfold mustIn
  simp [List.mem_filter]
theorem must_le (hs : SetOk w s) (hp : PrOk w pr lo hi) (h0 : 0 ≤ lo) {T : List Rw} {c : Int} {people : Rw} (hT : ∀ r, r ∈ T ↔ Tell w s g r) (b : Best w s g pr c people) : wt pr (mustIn s T) ≤ c := by
  rw [b.cost]
  refine wt_mono hs hp h0 (nodup_asc (sub_asc List.filter_sublist hs.asc)) (fun x hx => (mem_must.mp hx).2 _ ((hT _).mpr b.tell)) fun x hx => (tell_sub b.tell).subset hx
theorem tight_of (hs : SetOk w s) (hp : PrOk w pr lo hi) (h1 : 1 ≤ lo) {c : Int} {people : Rw} (b : Best w s g pr c people) {p : Int} (hm : p ∈ people) : ¬ Tell w s g (people.filter fun x => !decide (x = p)) := fun h => by
  have l := b.least _ h
  have e := sum_without (f := fun p => pr.getD p.toNat 0) (nodup_asc (tell_asc hs b.tell)) hm
  have r := hs.rng p ((tell_sub b.tell).subset hm)
  have a := hp.at r.1 r.2
  have c1 := b.cost
  unfold wt at l c1
  omega
theorem len_le (hs : SetOk w s) (hp : PrOk w pr lo hi) (h1 : 1 ≤ lo) {row : Rw} (h : row.Sublist s) : (row.length : Int) ≤ wt pr row :=
  sum_len fun x hx => by
    have r := hs.rng x (h.subset hx)
    have := hp.at r.1 r.2
    omega
/-- one price changed -/
structure Heavy (pr ph : List Int) (p z : Int) : Prop where
  same : ∀ x : Int, 0 ≤ x → x ≠ p → ph.getD x.toNat 0 = pr.getD x.toNat 0
  here : ph.getD p.toNat 0 = z
theorem wt_heavy (hs : SetOk w s) {ph : List Int} {p z : Int} (h : Heavy pr ph p z) {row : Rw} (hr : row.Sublist s) : wt ph row = wt pr row + (if p ∈ row then z - pr.getD p.toNat 0 else 0) := by
  have e : wt ph row = (row.map fun x => if x = p then z else pr.getD x.toNat 0).sum := by
    unfold wt
    congr 1
    refine List.map_congr_left fun x hx => ?_
    have r := hs.rng x (hr.subset hx)
    by_cases q : x = p
    · rw [if_pos q, q]; exact h.here
    · rw [if_neg q]; exact h.same x r.1 q
  rw [e]
  have := sum_at (f := fun x => if x = p then z else pr.getD x.toNat 0) (g := fun x => pr.getD x.toNat 0) (p := p) (fun x q => if_neg q) (l := row) (nodup_asc (sub_asc hr hs.asc))
  rw [this]
  unfold wt
  simp
theorem dear_ge (hs : SetOk w s) (hp : PrOk w pr lo hi) {ph : List Int} {p z : Int} (hz : hi ≤ z) (h : Heavy pr ph p z) {c d : Int} {r1 r2 : Rw} (b : Best w s g pr c r1) (b2 : Best w s g ph d r2) : c ≤ d := by
  have l := b.least _ b2.tell
  rw [b2.cost, wt_heavy hs h (tell_sub b2.tell)]
  split
  · rename_i hm
    have r := hs.rng p ((tell_sub b2.tell).subset hm)
    have := hp.at r.1 r.2
    omega
  · omega
theorem dear_must (hs : SetOk w s) {ph : List Int} {p z : Int} (h : Heavy pr ph p z) {T : List Rw} (hT : ∀ r, r ∈ T ↔ Tell w s g r) {c d : Int} {r1 r2 : Rw} (b : Best w s g pr c r1) (b2 : Best w s g ph d r2) (hm : p ∈ mustIn s T) : d = c - pr.getD p.toNat 0 + z := by
  have m1 := (mem_must.mp hm).2 _ ((hT _).mpr b.tell)
  have m2 := (mem_must.mp hm).2 _ ((hT _).mpr b2.tell)
  have l1 := b.least _ b2.tell
  have l2 := b2.least _ b.tell
  have e1 := wt_heavy hs h (tell_sub b.tell)
  have e2 := wt_heavy hs h (tell_sub b2.tell)
  rw [if_pos m1] at e1
  rw [if_pos m2] at e2
  have c1 := b.cost
  have c2 := b2.cost
  omega
theorem dear_free (hs : SetOk w s) {ph : List Int} {p z : Int} (h : Heavy pr ph p z) {c d : Int} {r1 r2 : Rw} (b : Best w s g pr c r1) (b2 : Best w s g ph d r2) (hm : p ∉ mayCall w s g) : d = c := by
  have m1 : p ∉ r1 := fun q => hm (b.tell.1.subset q)
  have m2 : p ∉ r2 := fun q => hm (b2.tell.1.subset q)
  have l1 := b.least _ b2.tell
  have l2 := b2.least _ b.tell
  have e1 := wt_heavy hs h (tell_sub b.tell)
  have e2 := wt_heavy hs h (tell_sub b2.tell)
  rw [if_neg m1] at e1
  rw [if_neg m2] at e2
  have c1 := b.cost
  have c2 := b2.cost
  omega
/-! ### both -/
def both (g o : Rw) : Rw := g.filter fun p => decide (p ∈ o)
theorem both_sub (hg : g.Sublist s) (o : Rw) : (both g o).Sublist s := List.filter_sublist.trans hg
theorem both_fits {o : Rw} (h1 : fits w s g = true) (h2 : fits w s o = true) : fits w s (both g o) = true := by
  obtain ⟨a1, a2⟩ := fits_iff.mp h1
  obtain ⟨b1, b2⟩ := fits_iff.mp h2
  refine fits_iff.mpr ⟨fun p hp => a1 p (List.mem_filter.mp hp).1, fun x hx hn => ?_⟩
  by_cases hxg : x ∈ g
  · have hxo : x ∉ o := fun q => hn (List.mem_filter.mpr ⟨hxg, by simpa using q⟩)
    obtain ⟨y, c1, c2, c3, c4⟩ := b2 x hx hxo
    exact ⟨y, c1, c2, c3, fun z hz hl hb => c4 z hz hl (by simpa using (List.mem_filter.mp hb).2)⟩
  · obtain ⟨y, c1, c2, c3, c4⟩ := a2 x hx hxg
    exact ⟨y, c1, c2, c3, fun z hz hl hb => c4 z hz hl (List.mem_filter.mp hb).1⟩
theorem both_le (hw : WebOk w) (hs : SetOk w s) (hp : PrOk w pr lo hi) (h0 : 0 ≤ lo) (hg : g.Sublist s) {o : Rw} {c1 c2 c3 : Int} {r1 r2 r3 : Rw} (b1 : Best w s g pr c1 r1) (b2 : Best w s o pr c2 r2) (b3 : Best w s (both g o) pr c3 r3) : c3 ≤ c1 + c2 := by
  obtain ⟨s1, m1, f1⟩ := (tell_iff hw hs).mp b1.tell
  obtain ⟨s2, m2, f2⟩ := (tell_iff hw hs).mp b2.tell
  have hu : Tell w s (both g o) (s.filter fun p => decide (p ∈ r1 ++ r2)) := by
    refine (tell_iff hw hs).mpr ⟨List.filter_sublist, fun p hp q hq hl hb => ?_, ?_⟩
    · have hb' := List.mem_filter.mp hb
      rcases List.mem_append.mp (by simpa using (List.mem_filter.mp hp).2 : p ∈ r1 ++ r2) with e | e
      · exact m1 p e q hq hl hb'.1
      · exact m2 p e q hq hl (by simpa using hb'.2)
    · unfold both
      rw [← f1, List.filter_filter]
      refine List.filter_congr fun x hx => ?_
      rw [Bool.eq_iff_iff, Bool.and_eq_true, decide_eq_true_eq, ← f2, List.mem_filter, okB_iff, okB_iff, okB_iff]
      constructor
      · intro h
        exact ⟨⟨hx, fun q hq hl hm => h q hq hl (List.mem_filter.mpr ⟨s2.subset hm, by simp [hm]⟩)⟩, fun q hq hl hm => h q hq hl (List.mem_filter.mpr ⟨s1.subset hm, by simp [hm]⟩)⟩
      · rintro ⟨⟨_, h2⟩, h1⟩ q hq hl hm
        rcases List.mem_append.mp (by simpa using (List.mem_filter.mp hm).2 : q ∈ r1 ++ r2) with e | e
        · exact h1 q hq hl e
        · exact h2 q hq hl e
  have l := b3.least _ hu
  have l2 : wt pr (s.filter fun p => decide (p ∈ r1 ++ r2)) ≤ wt pr (r1 ++ r2) := wt_mono hs hp h0 (nodup_asc (sub_asc List.filter_sublist hs.asc)) (fun x hx => by simpa using (List.mem_filter.mp hx).2) fun x hx => by
    rcases List.mem_append.mp hx with e | e
    · exact s1.subset e
    · exact s2.subset e
  have e : wt pr (r1 ++ r2) = wt pr r1 + wt pr r2 := by unfold wt; rw [List.map_append, List.sum_append]
  have c1' := b1.cost
  have c2' := b2.cost
  omega
/-! ### ends -/
def peaks (w : Wb) (s : Rw) : Rw := s.filter (okB w s)
theorem peaks_end (hw : WebOk w) (hs : SetOk w s) : IsEnd w s (peaks w s) := by
  refine ⟨List.filter_sublist, ?_, fits_iff.mpr ⟨fun p hp => (List.mem_filter.mp hp).1, fun x hx hn => ?_⟩⟩
  · unfold apart
    simp only [Bool.not_eq_true', List.any_eq_false, decide_eq_true_eq, List.any_eq_true, not_exists, not_and]
    intro a ha b hb hab
    have a1 := List.mem_filter.mp ha
    have b1 := List.mem_filter.mp hb
    have ra := hs.rng a a1.1
    have rb := hs.rng b b1.1
    have hba := hw.sym a b ra.1 ra.2 hab
    rcases Int.lt_or_le a b with q | q
    · exact okB_iff.mp a1.2 b hab q b1.1
    · rcases Int.lt_or_le b a with q2 | q2
      · exact okB_iff.mp b1.2 a hba q2 a1.1
      · have : a = b := by omega
        subst this
        exact hw.irr a hab
  · have : ¬ okB w s x = true := fun q => hn (List.mem_filter.mpr ⟨hx, q⟩)
    rw [okB_iff] at this
    have ⟨y, hy⟩ := Classical.not_forall.mp this
    have ⟨h1, h2⟩ := Classical.not_imp.mp hy
    have ⟨h3, h4⟩ := Classical.not_imp.mp h2
    have h5 := Classical.not_not.mp h4
    refine ⟨y, h1, h3, h5, fun z hz hl hzp => ?_⟩
    have ry := hs.rng y h5
    have z1 := List.mem_filter.mp hzp
    exact okB_iff.mp z1.2 y (hw.sym y z ry.1 ry.2 hz) hl h5
/-! ### the start -/
theorem base_fits (w : Wb) (s : Rw) : fits w s s = true := fits_iff.mpr ⟨fun p hp => hp, fun x hx q => absurd hx q⟩
theorem base_tell (hw : WebOk w) (hs : SetOk w s) : Tell w s s [] := (tell_iff hw hs).mpr ⟨List.nil_sublist _, fun p hp => by simp at hp, List.filter_eq_self.mpr fun x _ => okB_iff.mpr fun o _ _ q => by simp at q⟩
theorem base_best (hw : WebOk w) (hs : SetOk w s) (hp : PrOk w pr lo hi) (h1 : 1 ≤ lo) {c : Int} {r : Rw} (b : Best w s s pr c r) : c = 0 ∧ r = [] := by
  have l := b.least _ (base_tell hw hs)
  have e : wt pr [] = 0 := rfl
  have n := len_le hs hp h1 (tell_sub b.tell)
  have c1 := b.cost
  have hr : r.length = 0 := by omega
  have hr2 := List.eq_nil_of_length_eq_zero hr
  subst hr2
  exact ⟨by omega, rfl⟩
theorem best_uniq {c d : Int} {r1 r2 : Rw} (b : Best w s g pr c r1) (b2 : Best w s g pr d r2) : c = d := by
  have l1 := b.least _ b2.tell
  have l2 := b2.least _ b.tell
  have c1 := b.cost
  have c2 := b2.cost
  omega
/-! ### sizes -/
theorem nodup_len : ∀ {A B : List Rw}, A.Nodup → (∀ x ∈ A, x ∈ B) → A.length ≤ B.length
  | [], B, _, _ => Nat.zero_le _
  | a :: A, B, nd, hs => by
    have n2 := List.nodup_cons.mp nd
    have hp : B.Perm (a :: B.erase a) := List.perm_cons_erase (hs a (by simp))
    have ih := nodup_len (A := A) (B := B.erase a) n2.2 fun x hx => (List.mem_erase_of_ne (fun e => n2.1 (by rw [← e]; exact hx))).mpr (hs x (List.mem_cons_of_mem _ hx))
    have := hp.length_eq
    simp only [List.length_cons] at this ⊢
    omega
theorem asc_len : ∀ {l : Rw} {n : Nat}, l.Pairwise (· < ·) → (∀ x ∈ l, 0 ≤ x ∧ x < (n : Int)) → l.length ≤ n := by
  intro l n ha hr
  have h := sum_le_of_subset (f := fun _ => 1) (A := l) (B := (List.range n).map fun (i : Nat) => (i : Int)) (nodup_asc ha) (fun x hx => by
    have r := hr x hx
    exact List.mem_map.mpr ⟨x.toNat, List.mem_range.mpr (by omega), by omega⟩) (fun _ _ => by omega)
  have e : ∀ m : Rw, (m.map fun _ => (1 : Int)).sum = (m.length : Int) := by
    intro m
    induction m with
    | nil => rfl
    | cons a m ih => simp only [List.map_cons, List.sum_cons, ih, List.length_cons]; omega
  rw [e, e] at h
  simp at h
  omega
theorem SetOk.len (hs : SetOk w s) : s.length ≤ w.length := asc_len hs.asc hs.rng
end K87
set_option Elab.async false
set_option linter.all false
set_option maxRecDepth 100000
set_option maxHeartbeats 4000000
namespace K87R
open PySem PySem.W PyProof.Rows L2
/-- v is a tuple of the ints ns -/
def IsRow (h : Heap) (v : Value) (ns : List Int) : Prop := ∃ (a : Addr) (o : Obj) (its : Array Value) (n : Nat), v = .ref a ∧ h.get? a = some o ∧ o.cls = .type "tuple" ∧ o.data = .seq its n ∧ IntsAre its.toList ns
theorem IsRow.keeps {h h' : Heap} {v : Value} {ns : List Int} (r : IsRow h v ns) (k : ∀ b o, v = .ref b → h.get? b = some o → h'.get? b = some o) : IsRow h' v ns := by
  obtain ⟨a, o, its, n, e, ho, hc, hd, hi⟩ := r
  exact ⟨a, o, its, n, e, k _ _ e ho, hc, hd, hi⟩
section
variable {prog : Program} {w : World} {A : Around} {E : Value → Shared → Prop} {s : Shared}
theorem kat_ints {b : Bool} {Q : Bool → Shared → Prop} : ∀ {vs ws : List Value} {xs ys : List Int} (i : Nat) (fin : Bool), IntsAre vs xs → IntsAre ws ys → fin = decide (xs.length < ys.length) → Q (HT.lexLt xs ys) s → KatLex prog w A b fin Q (vs.zip ws) i s
  | _, _, _, _, i, fin, .nil, .nil, hf, hq => by
    have e : fin = false := by rw [hf]; rfl
    rw [e]
    exact kat_nil hq
  | _, _, _, _, i, fin, .nil, .cons y u h, hf, hq => by
    have e : fin = true := by rw [hf]; exact decide_eq_true (Nat.succ_pos _)
    rw [e]
    exact kat_nil hq
  | _, _, _, _, i, fin, .cons x t h, .nil, hf, hq => by
    have e : fin = false := by rw [hf]; exact decide_eq_false (Nat.not_lt_zero _)
    rw [e]
    exact kat_nil hq
  | _ :: vs, _ :: ws, _ :: xs, _ :: ys, i, fin, .cons x t h, .cons y u h2, hf, hq => by
    rw [List.zip_cons_cons]
    refine kat_cons (SeqAt.EqAt.int_int x t y u prog w _ _ ?_)
    refine kat_go (fun e1 => ?_) (fun e1 => ?_)
    · have ex : x = y := by simpa using e1
      refine kat_yes (kat_ints (i + 1) fin h h2 (by rw [hf]; simp only [List.length_cons, Nat.add_lt_add_iff_right]) ?_)
      have e3 : HT.lexLt (x :: xs) (y :: ys) = HT.lexLt xs ys := by show (if x = y then _ else _) = _; rw [if_pos ex]
      rw [← e3]
      exact hq
    · have ex : ¬ x = y := by simpa using e1
      have e3 : HT.lexLt (x :: xs) (y :: ys) = decide (x < y) := by show (if x = y then _ else _) = _; rw [if_neg ex]
      rw [e3] at hq
      exact kat_no (TS.oneLt_ints _ hq)
theorem lt_tuples {b : Bool} {v u : Value} {ns ms : List Int} {Q : Bool → Shared → Prop} (hv : IsRow s.heap v ns) (hu : IsRow s.heap u ms) (h : Q (HT.lexLt ns ms) s) : wpAny (model prog w) A (keyLt' (tuples' b) v u) Q E s := by
  obtain ⟨a, o, its, n, rfl, ho, hc, hd, hi⟩ := hv
  obtain ⟨a', o', its', n', rfl, ho', hc', hd', hi'⟩ := hu
  refine kat_lt ho hd ho' hd' (kat_ints 0 _ hi hi' ?_ h)
  have e1 := hi.length
  have e2 := hi'.length
  rw [Array.length_toList] at e1 e2
  rw [e1, e2]
theorem lt_general {v u : Value} {ns ms : List Int} {Q : Bool → Shared → Prop} (hr : A.units < cLine) (hv : IsRow s.heap v ns) (hu : IsRow s.heap u ms) (h : Q (HT.lexLt ns ms) s) : wpAny (model prog w) A (keyLt' general' v u) Q E s := by
  obtain ⟨a, o, its, n, rfl, ho, hc, hd, hi⟩ := hv
  obtain ⟨a', o', its', n', rfl, ho', hc', hd', hi'⟩ := hu
  show wpAny (model prog w) A (oneLt' false (.ref a) (.ref a')) Q E s
  refine kat_one _ _ ?_
  exact HT.lt_tupInts ⟨o, ho, hc, n, hd⟩ ⟨o', ho', hc', n', hd'⟩ hi hi' hr h
theorem lt_oneType {v u : Value} {ns ms : List Int} {Q : Bool → Shared → Prop} (hr : A.units < cLine) (hv : IsRow s.heap v ns) (hu : IsRow s.heap u ms) (h : Q (HT.lexLt ns ms) s) : wpAny (model prog w) A (keyLt' oneType' v u) Q E s := by
  obtain ⟨a, o, its, n, rfl, ho, hc, hd, hi⟩ := hv
  obtain ⟨a', o', its', n', rfl, ho', hc', hd', hi'⟩ := hu
  rw [keyLt'_oneType, oneLt'_eq]
  simp only [if_true]
  refine wpAny_bind (wpAny_cRoomFor hr ?_)
  obtain ⟨cls, dd, data, sl⟩ := o
  obtain ⟨cls2, dd2, data2, sl2⟩ := o'
  simp only at hc hd hc' hd'
  subst hc hd hc' hd'
  refine wpAny_bind (wpAny_callSpecialIfBound?_slot (T := "tuple") ⟨_, ho, rfl⟩ PySem.F.slot_tuple_lt (call_meets PySem.F.slot_tuple_lt ⟨_, ho, rfl⟩ PySem.F.entry_tuple_lt (PySem.F.args_tuple_lt_2 _ _) (HT.tuple_lt_ints a a' its its' n n' dd dd2 sl sl2 ns ms hi hi') ⟨ho, ho', ?_⟩))
  exact wpAny_truthy_bool h
theorem row_type {v : Value} {ns : List Int} (hv : IsRow s.heap v ns) : Looks (model prog w) s.heap (typeOf v) (.type "tuple") := by
  obtain ⟨a, o, its, n, rfl, ho, hc, hd, hi⟩ := hv
  rw [← hc]
  exact (Looks.ld ho).andThen .now
/-- the firsts of some tuples -/
theorem firsts_rows {k : Value → List Int} : ∀ (vs : List Value) {Q : List (Option Value) → Shared → Prop}, (∀ v ∈ vs, IsRow s.heap v (k v)) →
    (∀ fs : List (Option Value), fs.length = vs.length → (∀ i (h : i < vs.length), ∃ f, fs[i]? = some f ∧ f.isSome = !(k vs[i]).isEmpty ∧ ∀ x, f = some x → ∃ n t, x = .int n t) → Q fs s) → wpAny (model prog w) A (vs.mapM firstOfTuple') Q E s
  | [], Q, _, h => by
    rw [List.mapM_nil]
    exact wpAny_pure (h [] rfl fun i hi => absurd hi (Nat.not_lt_zero i))
  | v :: vs, Q, hv, h => by
    have h1 := hv v (by simp)
    obtain ⟨a, o, its, n, rfl, ho, hc, hd, hi⟩ := id h1
    rw [List.mapM_cons]
    refine wpAny_bind ?_
    rw [kas_first_eq]
    refine wpAny_bind (Looks.here (show Looks (model prog w) s.heap (typeOf (.ref a)) o.cls from (Looks.ld ho).andThen .now) ?_)
    rw [hc, if_neg (by first | decide | simp)]
    refine wpAny_bind (listItems_at ho hd (wpAny_pure ?_))
    refine wpAny_bind (firsts_rows vs (Q := fun bs s' => wpAny (model prog w) A (pure (its[0]? :: bs)) Q E s') (fun v hm => hv v (List.mem_cons_of_mem _ hm)) fun fs hl hf => wpAny_pure (h _ (by simp [hl]) fun i hi2 => ?_))
    cases i with
    | zero =>
      refine ⟨its[0]?, rfl, ?_, fun x hx => ?_⟩
      · show its[0]?.isSome = !(k (.ref a)).isEmpty
        rw [← Array.getElem?_toList]
        generalize its.toList = l at hi
        generalize k (.ref a) = m at hi
        cases hi <;> simp
      · have hx2 : its[0]? = some x := hx
        rw [← Array.getElem?_toList] at hx2
        generalize its.toList = l at hi hx2
        generalize k (.ref a) = m at hi
        cases hi with
        | nil => simp at hx2
        | cons n t h => simp at hx2; exact ⟨n, t, hx2.symm⟩
    | succ i =>
      obtain ⟨f, f1, f2⟩ := hf i (by simpa using hi2)
      exact ⟨f, by simpa using f1, by simpa using f2⟩
theorem rows_kind {vs : List Value} {k : Value → List Int} (h2 : 2 ≤ vs.length) (hv : ∀ v ∈ vs, IsRow s.heap v (k v)) : ∃ κ, (κ = tuples' true ∨ κ = general' ∨ κ = oneType') ∧ ∀ (Q : SortKind → Shared → Prop) (E : Value → Shared → Prop), Q κ s → wpAny (model prog w) A (keyKind' vs.toArray) Q E s := by
  by_cases hall : ∀ v ∈ vs, k v ≠ []
  · refine ⟨_, .inl rfl, fun Q E hq => ?_⟩
    rw [kat_kind_eq, List.mapM_toArray, map_eq_pure_bind]
    refine wpAny_bind (wpAny_bind (firsts_rows vs hv fun fs hl hf => wpAny_pure ?_))
    have e1 : ∀ f ∈ fs, ∃ n t, f = some (.int n t) := fun f hm => by
      obtain ⟨i, hi, e⟩ := List.mem_iff_getElem.mp hm
      obtain ⟨f', g1, g2, g3⟩ := hf i (by omega)
      have e' : f' = f := by rw [List.getElem?_eq_getElem hi] at g1; rw [← e]; exact (Option.some.inj g1).symm
      subst e'
      have hk := hall _ (List.getElem_mem (show i < vs.length by omega))
      have : f'.isSome = true := by rw [g2]; cases q : k vs[i] with
        | nil => exact absurd q hk
        | cons a l => rfl
      obtain ⟨x, hx⟩ := Option.isSome_iff_exists.mp this
      obtain ⟨n, t, ht⟩ := g3 x hx
      exact ⟨n, t, by rw [hx, ht]⟩
    have ha : (fs.toArray.all fun x => x.isSome) = true := by
      simp only [List.all_toArray, List.all_eq_true]
      intro f hm
      obtain ⟨n, t, e⟩ := e1 f hm
      rw [e] <;> rfl
    rw [if_pos ha]
    refine wpAny_bind (wpAny_rule ?_)
    have hfm : fs.toArray.filterMap id = (fs.filterMap id).toArray := by simp
    have hi : ∀ v ∈ fs.filterMap id, ∃ n t, v = Value.int n t := fun v hm => by
      obtain ⟨f, hf1, hf2⟩ := List.mem_filterMap.mp hm
      obtain ⟨n, t, e⟩ := e1 f hf1
      exact ⟨n, t, by rw [e] at hf2; exact (Option.some.inj hf2).symm⟩
    rw [hfm, oneTypeOnly'_eq, List.mapM_toArray, map_eq_pure_bind]
    refine wpAny_bind (wpAny_bind (wpAny_bind (kas_mapM (r := Value.type "int") _ (fun v hm Q' hq' => ?_) (wpAny_pure ?_))))
    · obtain ⟨n, t, e⟩ := hi v hm
      subst e
      exact Looks.now.here hq'
    · have hne : fs.filterMap id ≠ [] := by
        cases fs with
        | nil => simp at hl; omega
        | cons f r =>
          obtain ⟨n, t, e⟩ := e1 f (by simp)
          subst e
          simp
      obtain ⟨f₁, fr, e⟩ : ∃ f₁ fr, fs.filterMap id = f₁ :: fr := by
        cases q : fs.filterMap id with
        | nil => exact absurd q hne
        | cons a l => exact ⟨a, l, rfl⟩
      rw [e]
      have hall2 : ((List.map (fun _ => Value.type "int") (f₁ :: fr)).toArray.all fun x => x == Value.type "int") = true := by
        simp only [List.all_toArray, List.all_map, List.all_eq_true]
        intro _ _
        rfl
      have h0 : (List.map (fun _ => Value.type "int") (f₁ :: fr)).toArray[0]? = some (Value.type "int") := by simp
      rw [h0]
      simp only [hall2, if_true]
      refine wpAny_pure (wpAny_pure ?_)
      exact hq
  · have ⟨v0, hv0⟩ := Classical.not_forall.mp hall
    have ⟨hm0, hk0⟩ := Classical.not_imp.mp hv0
    have hk0' : k v0 = [] := Classical.not_not.mp hk0
    obtain ⟨v₁, vr, rfl⟩ : ∃ v₁ vr, vs = v₁ :: vr := by
      cases vs with
      | nil => simp at h2
      | cons a l => exact ⟨a, l, rfl⟩
    have not_all : ∀ fs : List (Option Value), fs.length = (v₁ :: vr).length → (∀ i (h : i < (v₁ :: vr).length), ∃ f, fs[i]? = some f ∧ f.isSome = !(k (v₁ :: vr)[i]).isEmpty ∧ ∀ x, f = some x → ∃ n t, x = .int n t) → (fs.toArray.all fun x => x.isSome) = false := fun fs hl hf => by
      obtain ⟨i, hi, e⟩ := List.mem_iff_getElem.mp hm0
      obtain ⟨f, g1, g2, _⟩ := hf i hi
      rw [e, hk0'] at g2
      rw [← Bool.not_eq_true]
      intro h
      rw [List.all_toArray, List.all_eq_true] at h
      have := h f (List.mem_of_getElem? g1)
      rw [this] at g2
      cases g2
    by_cases hk : k v₁ = []
    · refine ⟨_, .inr (.inr rfl), fun Q E hq => ?_⟩
      rw [kat_kind_eq, List.mapM_toArray, map_eq_pure_bind]
      refine wpAny_bind (wpAny_bind (firsts_rows _ hv fun fs hl hf => wpAny_pure ?_))
      rw [not_all fs hl hf, if_neg Bool.false_ne_true]
      obtain ⟨f, g1, g2, _⟩ := hf 0 (by simp)
      have g2' : f.isSome = false := by rw [g2]; show (!(k v₁).isEmpty) = false; rw [hk] <;> rfl
      have g3 : (fs.toArray[0]?.bind id).isSome = false := by
        have : fs.toArray[0]? = some f := by simpa using g1
        rw [this]
        exact g2'
      rw [g3, if_neg Bool.false_ne_true]
      rw [oneTypeOnly'_eq, List.mapM_toArray, map_eq_pure_bind]
      refine wpAny_bind (wpAny_bind (wpAny_bind (kas_mapM (r := Value.type "tuple") _ (fun v hm Q' hq' => (row_type (hv v hm)).here hq') (wpAny_pure ?_))))
      have hall2 : ((List.map (fun _ => Value.type "tuple") (v₁ :: vr)).toArray.all fun x => x == Value.type "tuple") = true := by
        simp only [List.all_toArray, List.all_map, List.all_eq_true]
        intro _ _
        rfl
      have h0 : (List.map (fun _ => Value.type "tuple") (v₁ :: vr)).toArray[0]? = some (Value.type "tuple") := by simp
      rw [h0]
      simp only [hall2, if_true]
      exact wpAny_pure (wpAny_pure hq)
    · refine ⟨_, .inr (.inl rfl), fun Q E hq => ?_⟩
      rw [kat_kind_eq, List.mapM_toArray, map_eq_pure_bind]
      refine wpAny_bind (wpAny_bind (firsts_rows _ hv fun fs hl hf => wpAny_pure ?_))
      rw [not_all fs hl hf, if_neg Bool.false_ne_true]
      obtain ⟨f, g1, g2, _⟩ := hf 0 (by simp)
      have g2' : f.isSome = true := by
        rw [g2]
        show (!(k v₁).isEmpty) = true
        cases q : k v₁ with
        | nil => exact absurd q hk
        | cons a l => rfl
      have g3 : (fs.toArray[0]?.bind id).isSome = true := by
        have : fs.toArray[0]? = some f := by simpa using g1
        rw [this]
        exact g2'
      rw [g3, if_pos rfl]
      exact wpAny_pure hq
theorem rows_sortable {a : Addr} {vs : List Value} {k : Value → List Int} (h2 : 2 ≤ vs.length) (hu : A.units < cLine) (hv : ∀ v ∈ vs, IsRow s.heap v (k v)) (ha : ∀ o, s.heap.get? a = some o → o.cls ≠ .type "tuple") : SrtO.SortableO prog w A s a vs fun v u => HT.lexLt (k v) (k u) := by
  intro h' keep
  have hv' : ∀ v ∈ vs, IsRow h' v (k v) := fun v hm => by
    obtain ⟨b, o, its, n, e, ho, hc, hd, hi⟩ := hv v hm
    exact ⟨b, o, its, n, e, keep b o (fun z => by subst z; exact ha o ho hc) ho, hc, hd, hi⟩
  obtain ⟨κ, hk, hw⟩ := rows_kind (prog := prog) (w := w) (A := A) (s := { s with heap := h' }) h2 hv'
  refine ⟨κ, fun Q E hq => hw Q E hq, fun p q hp hq => ?_⟩
  rcases hk with rfl | rfl | rfl
  · exact lt_tuples (s := { s with heap := h' }) (hv' _ hp) (hv' _ hq) ⟨rfl, rfl⟩
  · exact lt_general (s := { s with heap := h' }) hu (hv' _ hp) (hv' _ hq) ⟨rfl, rfl⟩
  · exact lt_oneType (s := { s with heap := h' }) hu (hv' _ hp) (hv' _ hq) ⟨rfl, rfl⟩
end
end K87R
namespace L2
open PySem PySem.Spec PyProof.Rows K87R
/-- sorted(xs), xs a list of tuples of ints, of any lengths -/
def rSortRows (K : PySem.W.Frag) : List V → Hp → VK → Prop := fun vs H Q => ∃ (a : Addr) (xs : List V), vs = [V.ref a] ∧ SqL K H a xs ∧ (∀ x ∈ xs, ∃ (t : Addr) (ns : List Int), x = V.ref t ∧ H t = some (.tup (ns.map V.int))) ∧
  ∀ ys p, ys.Perm xs → H p = none → Q (.ref p) (upd H p (.lst ys))
section
variable {X : Cx}
theorem cr_sortRows (hu : X.A.units + 64 < cLine) : CallR X (.builtin "sorted") (rSortRows X.K) := by
  intro pins s σ H vs us Q I r h
  obtain ⟨a, xs, rfl, hs, hx, q⟩ := h
  obtain ⟨its, rv, hl, hz⟩ := I.list hs
  obtain ⟨u, rfl, ru⟩ := vals1 r
  obtain rfl : u = Value.ref a := ru
  obtain ⟨e1, e2⟩ := refs_back rv fun x m => by
    obtain ⟨t, _, e, _⟩ := hx x m
    exact ⟨t, e⟩
  have hk : ∃ k : Value → List Int, ∀ v ∈ its, IsRow s.heap v (k v) := by
    have : ∀ v : Value, ∃ ns : List Int, v ∈ its → IsRow s.heap v ns := fun v => by
      by_cases hv : v ∈ its
      · obtain ⟨t, rfl⟩ := e2 v hv
        have hm : V.ref t ∈ xs := by rw [e1]; exact List.mem_map.mpr ⟨_, hv, rfl⟩
        obtain ⟨t', ns, e, ht⟩ := hx _ hm
        cases e
        obtain ⟨_, its2, r2, o, ho, hc, n, hd⟩ := I.hok _ _ ht
        exact ⟨ns, fun _ => ⟨t, o, its2.toArray, n, rfl, ho, hc, hd, by simpa using intsAre_of r2⟩⟩
      · exact ⟨[], fun z => absurd z hv⟩
    exact ⟨fun v => (this v).choose, fun v hv => (this v).choose_spec hv⟩
  obtain ⟨k, hk⟩ := hk
  refine SrtO.sorted_ord (NtL.swo_lexL k) hl.isList (by rw [← rv.length]; exact hz) (fun h2 h₁ a ha kk => ?_) fun out hs hb => ?_
  · refine rows_sortable (s := { s with heap := h₁ }) h2 (by show X.A.units + 1 + 1 < cLine; omega) (fun v hm => (hk v hm).keeps fun b o _ e => (kk b o e).2) fun o e => ?_
    have e' : some o = some (seqObj "list" its.toArray 0) := e.symm.trans ha
    cases e'
    intro c
    exact absurd (Value.type.inj c) (by decide)
  · have h3 : ∀ u ∈ out, ∃ a, u = Value.ref a := fun u hu => e2 u (hb.perm.mem_iff.mp hu)
    obtain ⟨n, hn⟩ := sortedAll_at s.heap its out.toArray
    have hp : (out.map backV).Perm xs := by
      rw [e1]
      exact hb.perm.map backV
    refine ⟨.ref (s.heap.objs.size + 1), upd H (s.heap.objs.size + 1) (.lst (out.map backV)), I.laid (t' := s.toks) (fun b o e => sortedAll_old e) (Nat.le_succ _) ⟨?_, out, n, vals_back h3, hn⟩, rfl, q _ _ hp (I.hok.fresh (Nat.le_succ _))⟩
    rw [hp.length_eq]
    exact hz
end
end L2
set_option Elab.async false
set_option linter.all false
set_option maxRecDepth 100000
set_option maxHeartbeats 4000000
namespace K87R
open PySem PySem.W PyProof.Rows L2
open AutoSeq1 (wpAny_loadPart')
/-! ### enumerate(tuple) -/
set_option maxHeartbeats 1000000 in
theorem meets_enumerate_newT (l : Addr) (items : Array Value) (n : Nat) (dct : Option Addr) (sl : Array (Option Value)) :
    Meets (Builtin.«enumerate.__new__» ⟨[.type "enumerate", .ref l], []⟩) (fun _ R s => s.heap.get? l = some { cls := .type "tuple", dict := dct, data := .seq items n, slots := sl } ∧
      R (.ok (.ret (.ref (s.heap.push { cls := .type "tuple_iterator", data := .fields #[.ref l, .int 0 0] }).objs.size)))
        { s with heap := (s.heap.push { cls := .type "tuple_iterator", data := .fields #[.ref l, .int 0 0] }).push { cls := .type "enumerate", data := .fields #[.none, .bool false, .ref s.heap.objs.size, rawInt 0, .none, .none] } }) :=
  .of_wp fun prog w A R s h => by
    obtain ⟨hp, g, d, tk, os⟩ := s; obtain ⟨hl, h⟩ := h
    have hsub := sub_enumerate
    have hL : Heap.IsTuple (Shared.heap ⟨hp, g, d, tk, os⟩) l items := ⟨_, hl, rfl, n, rfl⟩
    wp_walk using wpAny_loadPart' hl
    refine wpAny_stack_any fun st => wpAny_pure ?_
    split
    · rename_i c _ _ _ _ _
      cases (c == Value.type "enumerate")
      · wp_walk using wpAny_loadPart' hl, wpAny_pyIter_tuple hL
        exact ⟨_, rfl, h⟩
      · wp_walk using wpAny_loadPart' hl, wpAny_pyIter_tuple hL
        exact ⟨_, rfl, h⟩
    · wp_walk using wpAny_loadPart' hl, wpAny_pyIter_tuple hL
      exact ⟨_, rfl, h⟩
section
variable {prog : Program} {w : World} {A : Around} {E : Value → Shared → Prop} {s : Shared}
theorem call_enumerate_tuple {l : Addr} {items : Array Value} {Q : Value → Shared → Prop} (hL : s.heap.IsTuple l items)
    (h : ∀ h', IsEnum h' (s.heap.objs.size + 1) s.heap.objs.size 0 .none → h'.IsTupleIter s.heap.objs.size l 0 → h'.objs.size = s.heap.objs.size + 2 →
      (∀ b o, s.heap.get? b = some o → h'.get? b = some o) → Q (.ref (s.heap.objs.size + 1)) { s with heap := h' }) :
    wpAny (model prog w) A (call (.type "enumerate") [.ref l]) Q E s := by
  obtain ⟨⟨c, dct, dt, sl⟩, hl, hc, n, hd⟩ := hL
  replace hc : c = .type "tuple" := hc
  replace hd : dt = .seq items n := hd
  subst hc hd
  refine callType_new F.called_enumerate (by decide) (F.typeCall_enumerate_1 _) (F.newCall_enumerate_1 _) (fun obj => F.args_object_init_2 obj _) F.entry_enumerate_new
    (meets_enumerate_newT l items n dct sl) ⟨hl, ?_⟩
  have hz : (s.heap.push { cls := .type "tuple_iterator", data := .fields #[.ref l, .int 0 0] }).objs.size = s.heap.objs.size + 1 := Heap.size_push ..
  show _ ∧ _
  rw [hz]
  have he : IsEnum ((s.heap.push { cls := .type "tuple_iterator", data := .fields #[.ref l, .int 0 0] }).push
      { cls := .type "enumerate", data := .fields #[.none, .bool false, .ref s.heap.objs.size, rawInt 0, .none, .none] }) (s.heap.objs.size + 1) s.heap.objs.size 0 .none := by
    have := Heap.get?_push_size (s.heap.push { cls := .type "tuple_iterator", data := .fields #[.ref l, .int 0 0] })
      (o := { cls := .type "enumerate", data := .fields #[.none, .bool false, .ref s.heap.objs.size, rawInt 0, .none, .none] }) rfl
    rw [hz] at this; exact this
  refine ⟨⟨_, he, rfl⟩, h _ he ⟨_, Heap.get?_push_of_some _ (Heap.get?_push_size _ rfl), rfl, rfl⟩ (by rw [Heap.size_push, hz]) fun b o x => Heap.get?_push_of_some _ (Heap.get?_push_of_some _ x)⟩
end
end K87R
namespace L2
open PySem PySem.Spec PyProof.Rows K87R
def IteT (K : PySem.W.Frag) (a : Addr) : It :=
  ⟨fun i H => ∃ (xs : List V) (x : V), SqT K H a xs ∧ xs[i]? = some x, fun i H v H' => ∃ T x, v = .ref T ∧ H T = none ∧ H' = upd H T (.tup [.int (i : Nat), x]) ∧ ∀ xs, SqT K H a xs → xs[i]? = some x, fun i H => ∃ xs : List V, SqT K H a xs ∧ xs.length ≤ i⟩
theorem turn_enumT {P : Program} {w : World} {K : PySem.W.Frag} {elts : List Expr} {kk : Nat} {tpos : Pos} (a e it : Addr) :
    Turn P w K (.Tuple elts kk tpos) (IteT K a) [e, it] e (fun i h => (∃ old, IsEnum h e it ((i : Nat) : Int) old) ∧ h.IsTupleIter it a i ∧ e ≠ it ∧ a ≠ e ∧ a ≠ it) where
  mem := by simp
  obj := fun i h st b hb => by
    obtain ⟨⟨old, he⟩, ⟨o, ho, hc, hd⟩, _⟩ := st
    have e' : b = e ∨ b = it := by simpa using hb
    rcases e' with z | z
    · rw [z]; exact ⟨_, he, fun v q => nomatch q⟩
    · rw [z]; exact ⟨o, ho, fun v q => by rw [hd] at q; cases q⟩
  keep := fun i h h' st k => let ⟨⟨old, he⟩, hi, hne⟩ := st; ⟨⟨old, k e (by simp) _ he⟩, hi.at fun o q => k it (by simp) o q, hne⟩
  item := by
    intro X hP hw hK hc i pins s σ H E I hf st hg
    subst hP hw hK
    obtain ⟨⟨old, he⟩, hit, hne, hae, hai⟩ := st
    obtain ⟨xs, x, hq, hx⟩ := hg
    obtain ⟨its, rv, p, hz⟩ := I.tuple hq
    obtain ⟨u, hu, ru⟩ := rv.get hx
    have hel : e < s.heap.objs.size := Heap.lt_size he
    have hil : it < s.heap.objs.size := by obtain ⟨_, q, _⟩ := hit; exact Heap.lt_size q
    have hlt : i < its.toArray.size := by
      have := (List.getElem?_eq_some_iff.mp hu).1
      simpa using this
    refine wpAny_pyNext_enum_itemD (Draws.tuple (prog := X.prog) (w := X.w) (A := X.A.in1) (I.ok.hd hc) it a hai its.toArray) he ⟨hit, p⟩ hlt hne (by simp only [List.mem_cons, List.not_mem_nil, or_false, not_or]; exact ⟨hne, fun z => hae z.symm⟩) fun x' h' tk hP ho hit' hT hsz hk => ?_
    have ex : x' = u := by
      have h2 : its[i]? = some x' := by simpa using hP
      rw [hu] at h2
      exact (Option.some.inj h2).symm
    subst ex
    refine ⟨_, rfl, wpAny_letOwnedTupleGo_enum (s := { s with heap := h', toks := tk + 1 }) ho fun h'' he' sb => ?_⟩
    have hT2 : h''.get? s.heap.objs.size = some { cls := .type "tuple", data := .seq #[.int i tk, x'] } := (sb.2 _ (Nat.ne_of_gt hel)).trans hT
    have new : ObjOk X.prog X.w (upd H s.heap.objs.size (.tup [.int (i : Nat), x])) h'' s.heap.objs.size (.tup [.int (i : Nat), x]) :=
      ⟨by show 2 ≤ sizeLine; decide, [.int i tk, x'], .cons ⟨_, rfl⟩ (.cons ru .nil), ⟨_, hT2, rfl, _, rfl⟩⟩
    have I1 : Inv X pins σ (upd H s.heap.objs.size (.tup [.int (i : Nat), x])) { s with heap := h'', toks := tk + 1 } :=
      I.turnedNew (ch := [e, it]) (fun b ob hb q => (sb.2 b (fun z => hb (by simp [z]))).trans (hk b ob (fun z => hb (by simp [z])) (fun z => hb (by simp [z])) q)) hf (Nat.le_refl _) new
    refine ⟨.ref s.heap.objs.size, _, I1, rfl, ⟨_, x, rfl, I.hok.fresh (Nat.le_refl _), rfl, fun ys hy => by rw [I.tuple_inj hy hq]; exact hx⟩, ⟨⟨x', ?_⟩, hit'.1.at fun o q => (sb.2 it (Ne.symm hne)).trans q, hne, hae, hai⟩, fun b hb => ?_⟩
    · have e1 : ((i + 1 : Nat) : Int) = (i : Int) + 1 := by omega
      rw [e1]; exact he'
    · have hb' : b < s.heap.objs.size := by
        have e' : b = e ∨ b = it := by simpa using hb
        rcases e' with z | z
        · rw [z]; exact hel
        · rw [z]; exact hil
      rw [upd_ne (Nat.ne_of_lt hb')]
      exact (hf b hb).1
  done := by
    intro X hP hw hK hc i pins s σ H E I hf st hg
    subst hP hw hK
    obtain ⟨⟨old, he⟩, hit, hne, hae, hai⟩ := st
    obtain ⟨xs, hq, hx⟩ := hg
    obtain ⟨its, rv, p, hz⟩ := I.tuple hq
    obtain ⟨f0, f1, f2, f3, f4, f5⟩ := hf it (by simp)
    have hl := rv.length
    obtain ⟨o, ho, hc2, hd2⟩ := id hit
    unfold pyNext
    have hT : s.TypeIs (.ref e) "enumerate" := ⟨_, he, rfl⟩
    refine wpAny_bind (wpAny_attempt (wpAny_callSpecial?_slot (name := Str.ofString "__next__") hT PySem.F.slot_enumerate_next
      (wpAny_call_entry PySem.F.slot_enumerate_next hT PySem.F.entry_enumerate_next ?_ (PySem.F.args_enumerate_next_1 _))))
    show wpAny _ _ (field (.ref e) 2 >>= _) _ _ _
    refine wpAny_bind (wpAny_field he rfl (x := .ref it) rfl ?_)
    refine wpAny_bind (wpAny_nextOf_tuple_end (I.ok.hd hc) hit p (by simp; omega) fun h' x he' hx' => ?_)
    obtain ⟨o, ho, hc3⟩ := hx'
    refine wpAny_bind (wpAny_isInstance (T := "StopIteration") (b := true) ⟨o, ho, hc3⟩ isSubtype_stop ?_)
    exact wpAny_pure ⟨rfl, I.turned (t' := s.toks) (fun b o hb q => he' b o hb q) f0 f1 f3 f4 f5⟩
  self := fun A i s Q E st h => let ⟨⟨_, he⟩, _⟩ := st; wpAny_pyIter_enum he h
def iEnumT (K : PySem.W.Frag) (ta : TA) : TI := fun σ H R => ta σ H fun vs H1 => ∃ a xs, vs = [.ref a] ∧ SqT K H1 a xs ∧ R (IteT K a) H1
theorem pi_enumT {X : Cx} {e : Expr} {ta : TA} {p pos tpos : Pos} {elts : List Expr} {kk : Nat} (hg : Gl X "enumerate") (hm : X.mg "enumerate" = none) (ha : PA X [e] ta) (hs : starEach [e] X.env = [(false, eval e X.env)] := by rfl) :
    PI X (.Tuple elts kk tpos) (.Call (.Name "enumerate" p) [e] [] pos) (iEnumT X.K ta) := by
  refine ⟨fun pins s σ H R I h => ?_⟩
  refine Call_ (ld_blt I hg hm boot_enumerate (PyProof.Rows.callWith_type1 (thn (ha.run pos pins s σ H _ I h) fun us s1 ⟨vs, H1, I1, r1, q1⟩ => ?_) hs rfl))
  obtain ⟨a, xs, ex, hq, q⟩ := q1
  subst ex
  cases r1 with
  | cons r rr =>
    cases rr
    cases r
    obtain ⟨its, rv, p', hz⟩ := I1.tuple hq
    have hal : a < s1.heap.objs.size := p'.lt
    refine call_enumerate_tuple p' fun h' he hit hsz hk => wpAny_pyIter_enum he ?_
    have I2 : Inv X pins σ H1 { s1 with heap := h' } := I1.kept (t' := s1.toks) hk
    refine ⟨s1.heap.objs.size + 1, [s1.heap.objs.size + 1, s1.heap.objs.size], _, _, H1, rfl, I2, turn_enumT a (s1.heap.objs.size + 1) s1.heap.objs.size, ⟨⟨.none, he⟩, hit, Nat.succ_ne_self _, Nat.ne_of_lt (Nat.lt_succ_of_lt hal), Nat.ne_of_lt hal⟩, fun b hb => ?_, q⟩
    have e' : b = s1.heap.objs.size + 1 ∨ b = s1.heap.objs.size := by simpa using hb
    have hle : s1.heap.objs.size ≤ b := by
      rcases e' with z | z
      · rw [z]; exact Nat.le_add_right _ _
      · rw [z]; exact Nat.le_refl _
    exact I1.fpOk hle (I1.hok.fresh hle)
/-! ### set(t) of a tuple of ints -/
def rSetTup (K : PySem.W.Frag) (w : World) : List V → Hp → VK → Prop := fun vs H Q => ∃ (p : Addr) (ns : List Int), vs = [V.ref p] ∧ SqT K H p (ns.map V.int) ∧ ns.length ≤ 1000 ∧
  ∀ (a : Addr) (c : Nat), H a = none → c ≤ ns.length → Q (.ref a) (upd H a (SetO w a (fun j => decide (j ∈ ns)) c))
theorem cr_setTup {X : Cx} (hc : X.calm = true) : CallR X (.type "set") (rSetTup X.K X.w) := by
  intro pins s σ H vs us Q I r h
  obtain ⟨p, ns, rfl, hs, hl, q⟩ := h
  obtain ⟨its, rv, ht, hz⟩ := I.tuple hs
  rw [Vals.ref1 r]
  refine call_set_tupI ns (I.ok.hd hc) ht (by simpa using intsAre_of rv) (by unfold scanBound; omega) fun h' tk c R hcl hk => ?_
  exact ⟨.ref _, _, I.laid (t' := tk) hk (Nat.le_refl _) (setO_new R), rfl, q _ c (I.hok.fresh (Nat.le_refl _)) hcl⟩
/-! ### {k: v}, k a tuple -/
def tDisp1T (tk tv : TE) : TE := fun σ H Q => ∀ p, H p = none → tk σ (upd H p (.dT [])) fun x H1 => tv σ H1 fun y H2 => ∃ (b : Addr) (ks : List Key), x = .ref b ∧ H2 b = some (.tup (ks.map kV)) ∧ H2 p = some (.dT []) ∧ Q (.ref p) (upd H2 p (.dT [(ks, y)]))
theorem tkRoom {P : Program} {w : World} {A : Around} (hu : A.units + 1 < cLine) : (tupleKind (mixKind P w)).room A := by show A.units < cLine; omega
theorem pe_disp1T {X : Cx} {pos : Pos} {k v : Expr} {tk tv : TE} (hu : X.A.units + 1 < cLine) (hk : PE X k tk) (hv : PE X v tv) : PE X (.Dict [some k] [v] pos) (tDisp1T tk tv) := by
  refine ⟨fun pins s σ H Q I q => ?_⟩
  have hn := I.hok.fresh (Nat.le_refl s.heap.objs.size)
  have I1 := I.laid (a := s.heap.objs.size) (o := .dT []) (h' := s.heap.push { cls := .type "dict", data := .dict #[] }) (t' := s.toks) (fun _ _ q => Heap.get?_push_of_some _ q) (Nat.le_refl _) (dt_empty s.heap I.big)
  rw [arm_eval_Dict]
  have hshape : (evalEachOpt [some k] X.env).zip ((evalEach [v] X.env).map fun v => do let x ← v; standAt pos; pure x) = (pairTrees [some k] [v] X.env pos).map fun p => (some p.1, p.2) := rfl
  have hlen : (pairTrees [some k] [v] X.env pos).length = 1 := rfl
  rw [hshape, dictDisplay_pairs (pairTrees [some k] [v] X.env pos) (fun z => by rw [z] at hlen; cases hlen) (by rw [hlen]; decide)]
  refine wpAny_bind (wpAny_standAt (wpAny_bind (wpAny_subDictH (knd := tupleKind (mixKind X.prog X.w)) (Q := fun d s' => wpAny (model X.prog X.w) X.A (pure (Value.ref d)) (EP X pins σ Q) X.xe s') (tkRoom hu) (by rw [hlen]; decide) ?_)))
  refine pairTrees_cons_walk (thn (hk.run pins _ σ _ _ I1 (q _ hn)) fun u s1 ⟨x, H1', I2, rx, q1⟩ => thn (hv.run pins s1 σ H1' _ I2 q1) fun w2 s2 ⟨y, H2, I3, ry, q2⟩ => pairTrees_nil_walk ?_)
  obtain ⟨b, ks, ex, hb, hd, q2⟩ := q2
  subst ex
  obtain rfl : u = Value.ref b := rx
  obtain ⟨z, hs, xs, kt, dd⟩ := dt_of I3.hok hd
  cases kt
  refine ⟨[(ks, b, w2)], ⟨rfl, rfl, key_of I3.hok hb, True.intro⟩, dd, fun h' tk dd' hs' => wpAny_pure ⟨.ref s.heap.objs.size, _, ?_, rfl, q2⟩⟩
  obtain ⟨o, es, ep, ho, hx, hdt, he, hi, hnd⟩ := dd'
  refine d_write I3 (t' := tk) (by rw [hd]; exact True.intro) hs' ⟨o, ho⟩ ⟨by show 1 ≤ sizeLine; decide, hs, [(ks, b, w2)], .cons ⟨rfl, ?_, ry⟩ .nil, o, es, ep, ho, hx, hdt, he, hnd⟩
  rw [upd_ne (ne_of hb hd (by intro z; cases z))]
  exact hb
end L2
set_option Elab.async false
set_option linter.all false
set_option maxRecDepth 100000
set_option maxHeartbeats 4000000
namespace K87
open PySem L2 Evl
/-! ### heaps -/
def Kp (M : Addr → Prop) (H H' : Hp) : Prop := ∀ b o, ¬ M b → H b = some o → H' b = some o
def Tx (H H' : Hp) : Prop := ∀ a xs, H a = some (.tup xs) → H' a = some (.tup xs)
/-- what may change is there and is no tuple -/
def MOk (M : Addr → Prop) (H : Hp) : Prop := ∀ b, M b → ∃ o, H b = some o ∧ ∀ xs, o ≠ .tup xs
abbrev M0 : Addr → Prop := fun _ => False
theorem mok0 {H : Hp} : MOk M0 H := fun _ h => h.elim
theorem Kp.refl {M : Addr → Prop} (H : Hp) : Kp M H H := fun _ _ _ h => h
theorem Kp.trans {M : Addr → Prop} {H H1 H2 : Hp} (a : Kp M H H1) (b : Kp M H1 H2) : Kp M H H2 := fun c o n h => b c o n (a c o n h)
theorem Kp.of_ex {M : Addr → Prop} {H H' : Hp} (e : Ex H H') : Kp M H H' := fun b o _ h => e b o h
theorem Kp.ex {H H' : Hp} (k : Kp M0 H H') : Ex H H' := fun b o h => k b o (fun z => z) h
theorem Ex.tx {H H' : Hp} (e : Ex H H') : Tx H H' := fun a xs h => e a _ h
theorem Tx.trans {H H1 H2 : Hp} (a : Tx H H1) (b : Tx H1 H2) : Tx H H2 := fun c xs h => b c xs (a c xs h)
theorem MOk.mono {M : Addr → Prop} {H H' : Hp} (m : MOk M H) (e : Ex H H') : MOk M H' := fun b h => let ⟨o, h1, h2⟩ := m b h; ⟨o, e b o h1, h2⟩
theorem Kp.tx {M : Addr → Prop} {H H' : Hp} (k : Kp M H H') (m : MOk M H) : Tx H H' := fun a xs h => k a _ (fun z => by
  obtain ⟨o, h1, h2⟩ := m a z
  rw [h] at h1
  exact h2 xs (Option.some.inj h1).symm) h
theorem Tx.new {H : Hp} {p : Addr} {o : HO} (h : H p = none) : Tx H (upd H p o) := fun a xs e => by
  rw [upd_ne (ne_of_none e h)]
  exact e
theorem Tx.mut {H H' : Hp} {p : Addr} {u o : HO} (t : Tx H H') (h : H' p = some u) (hu : ∀ xs, u ≠ .tup xs) : Tx H (upd H' p o) := fun a xs e => by
  have e' := t a xs e
  rw [upd_ne (fun z => by rw [z, h] at e'; exact hu xs (Option.some.inj e'))]
  exact e'
theorem Kp.mut {M : Addr → Prop} {H H' : Hp} {p : Addr} {o : HO} (k : Kp M H H') (hp : M p) : Kp M H (upd H' p o) := fun b u n h => by
  rw [upd_ne (fun z => n (by rw [z]; exact hp))]
  exact k b u n h
theorem Kp.mutN {M : Addr → Prop} {H H' : Hp} {p : Addr} {o : HO} (k : Kp M H H') (hp : H p = none) : Kp M H (upd H' p o) := fun b u n h => by
  rw [upd_ne (ne_of_none h hp)]
  exact k b u n h
theorem MOk.mut {M : Addr → Prop} {H : Hp} {p : Addr} {o : HO} (m : MOk M H) (ho : ∀ xs, o ≠ .tup xs) : MOk M (upd H p o) := fun b h => by
  by_cases e : b = p
  · rw [e]
    exact ⟨o, upd_same, ho⟩
  · rw [upd_ne e]
    exact m b h
/-! ### data -/
abbrev Rep (α : Type) := Hp → V → α → Prop
def rI : Rep Int := fun _ v i => v = .int i
def rB : Rep Bool := fun _ v b => v = .bl b
def rRow : Rep (List Int) := fun H v ns => ∃ a, v = .ref a ∧ H a = some (.tup (ns.map V.int))
def rTup {α : Type} (R : Rep α) : Rep (List α) := fun H v l => ∃ a xs, v = .ref a ∧ H a = some (.tup xs) ∧ Paired (R H) xs l
def rLst {α : Type} (R : Rep α) : Rep (List α) := fun H v l => ∃ a xs, v = .ref a ∧ H a = some (.lst xs) ∧ Paired (R H) xs l
def rPair : Rep (Int × List Int) := fun H v d => ∃ t u, v = .ref t ∧ H t = some (.tup [.int d.1, .ref u]) ∧ H u = some (.tup (d.2.map V.int))
def Stab {α : Type} (R : Rep α) : Prop := ∀ H H' v x, Tx H H' → R H v x → R H' v x
theorem st_I : Stab rI := fun _ _ _ _ _ h => h
theorem st_B : Stab rB := fun _ _ _ _ _ h => h
theorem st_row : Stab rRow := fun _ _ _ _ t ⟨a, e, h⟩ => ⟨a, e, t a _ h⟩
theorem Paired.st {α : Type} {R : Rep α} (s : Stab R) {H H' : Hp} (t : Tx H H') {xs : List V} {l : List α} (h : Paired (R H) xs l) : Paired (R H') xs l := Paired.mapP h fun v x r => s H H' v x t r
theorem st_tup {α : Type} {R : Rep α} (s : Stab R) : Stab (rTup R) := fun _ _ _ _ t ⟨a, xs, e, h, p⟩ => ⟨a, xs, e, t a _ h, Paired.st s t p⟩
theorem st_pair : Stab rPair := fun _ _ _ _ t ⟨a, u, e, h, h2⟩ => ⟨a, u, e, t a _ h, t u _ h2⟩
theorem pi_ints {H : Hp} : ∀ ns : List Int, Paired (rI H) (ns.map V.int) ns
  | [] => .nil
  | _ :: r => .cons rfl (pi_ints r)
theorem ints_of_pi {H : Hp} : ∀ {xs : List V} {ns : List Int}, Paired (rI H) xs ns → xs = ns.map V.int
  | _, _, .nil => rfl
  | _, _, .cons r t => by rw [List.map_cons, ← ints_of_pi t, show _ = V.int _ from r]
theorem bools_of_pi {H : Hp} : ∀ {xs : List V} {ns : List Bool}, Paired (rB H) xs ns → xs = ns.map V.bl
  | _, _, .nil => rfl
  | _, _, .cons r t => by rw [List.map_cons, ← bools_of_pi t, show _ = V.bl _ from r]
theorem row_tup {H : Hp} {v : V} {ns : List Int} (h : rRow H v ns) : rTup rI H v ns := let ⟨a, e, h⟩ := h; ⟨a, _, e, h, pi_ints ns⟩
theorem tup_row {H : Hp} {v : V} {ns : List Int} (h : rTup rI H v ns) : rRow H v ns := let ⟨a, xs, e, h, p⟩ := h; ⟨a, e, by rw [h, ints_of_pi p]⟩
theorem Paired.at {α β : Type} {F : α → β → Prop} : ∀ {l : List α} {m : List β} {i : Nat} {x : α}, Paired F l m → l[i]? = some x → ∃ y, m[i]? = some y ∧ F x y
  | _, _, _, _, .nil, e => by simp at e
  | _, _, 0, _, .cons r _, e => by simp at e; subst e; exact ⟨_, rfl, r⟩
  | _, _, i + 1, x, .cons _ t, e => by
    obtain ⟨u, h1, h2⟩ := Paired.at (i := i) (x := x) t (by simpa using e)
    exact ⟨u, by simpa using h1, h2⟩
theorem Paired.at' {α β : Type} {F : α → β → Prop} : ∀ {l : List α} {m : List β} {i : Nat} {y : β}, Paired F l m → m[i]? = some y → ∃ x, l[i]? = some x ∧ F x y
  | _, _, _, _, .nil, e => by simp at e
  | _, _, 0, _, .cons r _, e => by simp at e; subst e; exact ⟨_, rfl, r⟩
  | _, _, i + 1, x, .cons _ t, e => by
    obtain ⟨u, h1, h2⟩ := Paired.at' (i := i) (y := x) t (by simpa using e)
    exact ⟨u, by simpa using h1, h2⟩
theorem Paired.snoc' {α β : Type} {F : α → β → Prop} : ∀ {l : List α} {m : List β} {x : α} {y : β}, Paired F l m → F x y → Paired F (l ++ [x]) (m ++ [y])
  | _, _, _, _, .nil, h => .cons h .nil
  | _, _, _, _, .cons r t, h => .cons r (Paired.snoc' t h)
theorem Paired.app' {α β : Type} {F : α → β → Prop} : ∀ {l l2 : List α} {m m2 : List β}, Paired F l m → Paired F l2 m2 → Paired F (l ++ l2) (m ++ m2)
  | _, _, _, _, .nil, h => h
  | _, _, _, _, .cons r t, h => .cons r (Paired.app' t h)
/-- a rearranged list is told by rearranged data -/
theorem Paired.perm {α β : Type} {F : α → β → Prop} {l l2 : List α} (h : l.Perm l2) : ∀ {m : List β}, Paired F l m → ∃ m2, m.Perm m2 ∧ Paired F l2 m2 := by
  induction h with
  | nil => intro m p; cases p; exact ⟨[], .nil, .nil⟩
  | cons x _ ih =>
    intro m p
    cases p with
    | cons r t =>
      obtain ⟨m2, h1, h2⟩ := ih t
      exact ⟨_, h1.cons _, .cons r h2⟩
  | swap x y l =>
    intro m p
    cases p with
    | cons r t =>
      cases t with
      | cons r2 t2 => exact ⟨_, .swap _ _ _, .cons r2 (.cons r t2)⟩
  | trans _ _ i1 i2 =>
    intro m p
    obtain ⟨m1, h1, h2⟩ := i1 p
    obtain ⟨m2, h3, h4⟩ := i2 h2
    exact ⟨m2, h1.trans h3, h4⟩
/-! ### what evaluates to what -/
def EvD (te : TE) (σ : L2.St) (H : Hp) (P : V → Hp → Prop) : Prop := ∀ H1, Ex H H1 → ∀ Q : VK, (∀ v H2, Ex H1 H2 → P v H2 → Q v H2) → te σ H1 Q
/-- a new object -/
def EvN (te : TE) (σ : L2.St) (H : Hp) (P : V → Hp → Prop) : Prop := ∀ H1, Ex H H1 → ∀ Q : VK, (∀ p H2, H1 p = none → Ex H1 H2 → P (.ref p) H2 → Q (.ref p) H2) → te σ H1 Q
section
variable {K : PySem.W.Frag} {σ : L2.St} {H H' : Hp} {ta tb te : TE} {t u : TT} {x y z v : V} {P P' : V → Hp → Prop}
theorem EvD.mono (e : Ex H H') (h : EvD te σ H P) : EvD te σ H' P := fun H1 a Q q => h H1 (e.trans a) Q q
theorem EvN.mono (e : Ex H H') (h : EvN te σ H P) : EvN te σ H' P := fun H1 a Q q => h H1 (e.trans a) Q q
theorem EvN.d (h : EvN te σ H P) : EvD te σ H P := fun H1 e Q q => h H1 e Q fun p H2 _ e2 hp => q _ H2 e2 hp
theorem EvD.imp (h : EvD te σ H P) (i : ∀ v H1, Ex H H1 → P v H1 → P' v H1) : EvD te σ H P' := fun H1 e Q q => h H1 e Q fun v H2 e2 hp => q v H2 e2 (i v H2 (e.trans e2) hp)
theorem EvN.imp (h : EvN te σ H P) (i : ∀ v H1, Ex H H1 → P v H1 → P' v H1) : EvN te σ H P' := fun H1 e Q q => h H1 e Q fun v H2 n e2 hp => q v H2 n e2 (i _ H2 (e.trans e2) hp)
theorem evd_of (h : Ev te σ H v) (hp : ∀ H1, Ex H H1 → P v H1) : EvD te σ H P := fun H1 e Q q => h H1 e Q fun H2 e2 => q v H2 e2 (hp H2 (e.trans e2))
theorem ev_of (h : EvD te σ H P) (hp : ∀ x H1, Ex H H1 → P x H1 → x = v) : Ev te σ H v := fun H1 e Q q => h H1 e Q fun x H2 e2 px => by
  rw [hp x H2 (e.trans e2) px]
  exact q H2 e2
/-- a row, a web at a slot -/
theorem evd_var {α : Type} {R : Rep α} {a : α} {i : Nat} (s : Stab R) (h : σ[i]? = some (some v)) (r : R H v a) : EvD (tVar i) σ H fun x H1 => R H1 x a := evd_of (ev_var h) fun H1 e => s H H1 v a (Ex.tx e) r
theorem evd_cb1 {r : List V → Hp → VK → Prop} (ha : EvD ta σ H P) (hr : ∀ x H1, Ex H H1 → P x H1 → ∀ Q : VK, (∀ z H2, Ex H1 H2 → P' z H2 → Q z H2) → r [x] H1 Q) : EvD (tCB r (tCons ta tNil)) σ H P' := fun H1 e Q q =>
  ha H1 e _ fun x H2 e2 px => hr x H2 (e.trans e2) px Q fun z H3 e3 => q z H3 (e2.trans e3)
theorem evn_cb1 {r : List V → Hp → VK → Prop} (ha : EvD ta σ H P) (hr : ∀ x H1, Ex H H1 → P x H1 → ∀ Q : VK, (∀ z H2, H1 z = none → Ex H1 H2 → P' (.ref z) H2 → Q (.ref z) H2) → r [x] H1 Q) : EvN (tCB r (tCons ta tNil)) σ H P' := fun H1 e Q q =>
  ha H1 e _ fun x H2 e2 px => hr x H2 (e.trans e2) px Q fun z H3 n e3 => q z H3 (fresh_back e2 n) (e2.trans e3)
theorem evd_call {sp : Sp} {vs : List V} {E : XK} {tA : TA} (h : EvA tA σ H vs) (hs : ∀ H1, Ex H H1 → ∀ Q : VK, (∀ z H2, Ex H1 H2 → P z H2 → Q z H2) → sp vs H1 Q E) : EvD (tCall sp [] E tA) σ H P := fun H1 e Q q =>
  h H1 e _ fun H2 e2 => by
    rw [List.append_nil]
    exact hs H2 (e.trans e2) Q fun z H3 e3 => q z H3 (e2.trans e3)
theorem evn_call {sp : Sp} {vs : List V} {E : XK} {tA : TA} (h : EvA tA σ H vs) (hs : ∀ H1, Ex H H1 → ∀ Q : VK, (∀ z H2, H1 z = none → Ex H1 H2 → P (.ref z) H2 → Q (.ref z) H2) → sp vs H1 Q E) : EvN (tCall sp [] E tA) σ H P := fun H1 e Q q =>
  h H1 e _ fun H2 e2 => by
    rw [List.append_nil]
    exact hs H2 (e.trans e2) Q fun z H3 n e3 => q z H3 (fresh_back e2 n) (e2.trans e3)
/-- a call with one argument that is told by what it is -/
theorem evd_call1 {sp : Sp} {E : XK} (ha : EvD ta σ H P) (hs : ∀ x H1, Ex H H1 → P x H1 → ∀ Q : VK, (∀ z H2, Ex H1 H2 → P' z H2 → Q z H2) → sp [x] H1 Q E) : EvD (tCall sp [] E (tCons ta tNil)) σ H P' := fun H1 e Q q =>
  ha H1 e _ fun x H2 e2 px => hs x H2 (e.trans e2) px Q fun z H3 e3 => q z H3 (e2.trans e3)
theorem evn_call1 {sp : Sp} {E : XK} (ha : EvD ta σ H P) (hs : ∀ x H1, Ex H H1 → P x H1 → ∀ Q : VK, (∀ z H2, H1 z = none → Ex H1 H2 → P' (.ref z) H2 → Q (.ref z) H2) → sp [x] H1 Q E) : EvN (tCall sp [] E (tCons ta tNil)) σ H P' := fun H1 e Q q =>
  ha H1 e _ fun x H2 e2 px => hs x H2 (e.trans e2) px Q fun z H3 n e3 => q z H3 (fresh_back e2 n) (e2.trans e3)
/-- two operands, told by what they are -/
theorem evd_op {r : R2} {Pa Pb : V → Hp → Prop} (ha : EvD ta σ H Pa) (hb : EvD tb σ H Pb) (hr : ∀ x y H1 H2, Ex H H1 → Pa x H1 → Ex H1 H2 → Pb y H2 → ∀ Q : VK, (∀ z H3, Ex H2 H3 → P z H3 → Q z H3) → r x y H2 Q) : EvD (tOp r ta tb) σ H P := fun H1 e Q q =>
  ha H1 e _ fun x H2 e2 px => hb H2 (e.trans e2) _ fun y H3 e3 py => hr x y H2 H3 (e.trans e2) px e3 py Q fun z H4 e4 => q z H4 ((e2.trans e3).trans e4)
/-! built-ins -/
theorem ev_any {bs : List Bool} (ha : EvD ta σ H fun v H1 => rLst rB H1 v bs) : Ev (tCB (rAny K) (tCons ta tNil)) σ H (.bl (bs.any id)) := fun H1 e Q q =>
  ha H1 e _ fun x H2 e2 ⟨a, xs, ex, h, p⟩ => ⟨a, bs, by rw [ex], sq_of (by rw [h, bools_of_pi p]), q H2 e2⟩
theorem ev_all {bs : List Bool} (ha : EvD ta σ H fun v H1 => rLst rB H1 v bs) : Ev (tCB (rAll K) (tCons ta tNil)) σ H (.bl (bs.all id)) := fun H1 e Q q =>
  ha H1 e _ fun x H2 e2 ⟨a, xs, ex, h, p⟩ => ⟨a, bs, by rw [ex], sq_of (by rw [h, bools_of_pi p]), q H2 e2⟩
theorem ev_sum {ns : List Int} (ha : EvD ta σ H fun v H1 => rLst rI H1 v ns) : Ev (tCB (rSum K) (tCons ta tNil)) σ H (.int ns.sum) := fun H1 e Q q =>
  ha H1 e _ fun x H2 e2 ⟨a, xs, ex, h, p⟩ => ⟨a, ns, by rw [ex], sq_of (by rw [h, ints_of_pi p]), q H2 e2⟩
theorem evd_min {ns : List Int} (hn : ns ≠ []) (ha : EvD ta σ H fun v H1 => rLst rI H1 v ns) : EvD (tCB (rMin K) (tCons ta tNil)) σ H fun v _ => ∃ m, v = .int m ∧ m ∈ ns ∧ ∀ y ∈ ns, m ≤ y := fun H1 e Q q =>
  ha H1 e _ fun x H2 e2 ⟨a, xs, ex, h, p⟩ => ⟨a, ns, by rw [ex], sq_of (by rw [h, ints_of_pi p]), List.length_pos_iff.mpr hn, fun m h1 h2 => q _ H2 e2 ⟨m, rfl, h1, h2⟩⟩
/-- tuple(a list) -/
def rTupleOf (K : PySem.W.Frag) : List V → Hp → VK → Prop := fun xs H Q => ∃ p ys, xs = [.ref p] ∧ ((SqL K H p ys ∧ ∀ l, H l = none → Q (.ref l) (upd H l (.tup ys))) ∨ (SqT K H p ys ∧ Q (.ref p) H))
theorem evn_tuple {α : Type} {R : Rep α} {l : List α} (s : Stab R) (ha : EvD ta σ H fun v H1 => rLst R H1 v l) : EvN (tCB (rTupleOf K) (tCons ta tNil)) σ H fun v H1 => rTup R H1 v l := fun H1 e Q q =>
  ha H1 e _ fun x H2 e2 ⟨a, xs, ex, h, p⟩ => ⟨a, xs, by rw [ex], .inl ⟨sq_of h, fun p hp => q p _ (fresh_back e2 hp) (e2.trans (Ex.new hp)) ⟨p, xs, rfl, upd_same, Paired.st s (Tx.new hp) ‹_›⟩⟩⟩
theorem evn_tupleI {l : List Int} (ha : EvD ta σ H fun v H1 => rLst rI H1 v l) : EvN (tCB (rTupleOf K) (tCons ta tNil)) σ H fun v H1 => rRow H1 v l := (evn_tuple st_I ha).imp fun _ _ _ h => tup_row h
/-- list(a tuple of ints) -/
theorem evn_listT {l : List Int} (ha : EvD ta σ H fun v H1 => rRow H1 v l) : EvN (tCB (rListS K) (tCons ta tNil)) σ H fun v H1 => rLst rI H1 v l := fun H1 e Q q =>
  ha H1 e _ fun x H2 e2 ⟨a, ex, h⟩ => ⟨a, l.map V.int, by rw [ex], .inr (st_of h), fun p hp => q p _ (fresh_back e2 hp) (e2.trans (Ex.new hp)) ⟨p, _, rfl, upd_same, pi_ints l⟩⟩
/-- len -/
theorem ev_lenT {xs : List V} {a : Addr} (ha : Ev ta σ H (.ref a)) (h : H a = some (.tup xs)) : Ev (tCB (rLenS K) (tCons ta tNil)) σ H (.int (xs.length : Int)) := fun H1 e Q q =>
  ha H1 e _ fun H2 e2 => ⟨a, xs, rfl, .inr (st_of (e2 _ _ (e _ _ h))), q H2 e2⟩
theorem ev_lenD {α : Type} {R : Rep α} {l : List α} (ha : EvD ta σ H fun v H1 => rLst R H1 v l) : Ev (tCB (rLenS K) (tCons ta tNil)) σ H (.int (l.length : Int)) := fun H1 e Q q =>
  ha H1 e _ fun x H2 e2 ⟨a, xs, ex, h, p⟩ => ⟨a, xs, by rw [ex], .inl (sq_of h), by rw [Paired.length p]; exact q H2 e2⟩
/-- in, not in: an int in a row -/
theorem inV_ints (i : Int) : ∀ ns : List Int, inV (.int i) (ns.map V.int) = decide (i ∈ ns)
  | [] => rfl
  | n :: r => by
    have ih := inV_ints i r
    unfold inV at ih ⊢
    rw [List.map_cons, List.any_cons, ih, Bool.eq_iff_iff]
    simp only [eqV, Bool.or_eq_true, decide_eq_true_eq, List.mem_cons, beq_iff_eq]
    constructor <;> rintro (h | h) <;> first | exact .inr h | (left; first | exact h | exact h.symm | omega)
theorem flat_ints : ∀ ns : List Int, (ns.map V.int).all flatV = true
  | [] => rfl
  | n :: r => by rw [List.map_cons, List.all_cons, flat_ints r] <;> rfl
theorem ev_inT {a : Addr} {i : Int} {ns : List Int} (ha : Ev ta σ H (.int i)) (hb : Ev tb σ H (.ref a)) (h : H a = some (.tup (ns.map V.int))) : Ev (tOp (rIn K false) ta tb) σ H (.bl (decide (i ∈ ns))) := by
  have := ev_op ha hb (rv_isT (K := K) (st_of h) (x := .int i) rfl (flat_ints ns))
  rw [inV_ints] at this
  exact this
theorem ev_niT {a : Addr} {i : Int} {ns : List Int} (ha : Ev ta σ H (.int i)) (hb : Ev tb σ H (.ref a)) (h : H a = some (.tup (ns.map V.int))) : Ev (tOp (rIn K true) ta tb) σ H (.bl (!decide (i ∈ ns))) := by
  have := ev_op ha hb (rv_niT (K := K) (st_of h) (x := .int i) rfl (flat_ints ns))
  rw [inV_ints] at this
  exact this
/-- an int in a list of ints -/
theorem ev_inL {a : Addr} {i : Int} {ns : List Int} (ha : Ev ta σ H (.int i)) (hb : Ev tb σ H (.ref a)) (h : H a = some (.lst (ns.map V.int))) : Ev (tOp (rIn K false) ta tb) σ H (.bl (decide (i ∈ ns))) := by
  have := ev_op ha hb (rv_isL (K := K) (sq_of h) (x := .int i) rfl (flat_ints ns))
  rw [inV_ints] at this
  exact this
/-- .. in a row that is told by what it is -/
theorem ev_inTD {i : Int} {ns : List Int} (ha : Ev ta σ H (.int i)) (hb : EvD tb σ H fun v H1 => rRow H1 v ns) : Ev (tOp (rIn K false) ta tb) σ H (.bl (decide (i ∈ ns))) := fun H1 e Q q =>
  ha H1 e _ fun H2 e2 => hb H2 (e.trans e2) _ fun y H3 e3 ⟨a, ey, h⟩ => ⟨a, _, ey, .inr (st_of h), rfl, flat_ints ns, by
    rw [inV_ints]
    exact q H3 (e2.trans e3)⟩
theorem ev_niTD {i : Int} {ns : List Int} (ha : Ev ta σ H (.int i)) (hb : EvD tb σ H fun v H1 => rRow H1 v ns) : Ev (tOp (rIn K true) ta tb) σ H (.bl (!decide (i ∈ ns))) := fun H1 e Q q =>
  ha H1 e _ fun H2 e2 => hb H2 (e.trans e2) _ fun y H3 e3 ⟨a, ey, h⟩ => ⟨a, _, ey, .inr (st_of h), rfl, flat_ints ns, by
    rw [inV_ints]
    exact q H3 (e2.trans e3)⟩
/-- web[p] -/
theorem evd_ixT {α : Type} {R : Rep α} {l : List α} {j : Nat} {a : α} (s : Stab R) (ha : EvD ta σ H fun v H1 => rTup R H1 v l) (hb : Ev tb σ H (.int (j : Int))) (hj : l[j]? = some a) : EvD (tOp (rIxT K) ta tb) σ H fun v H1 => R H1 v a := fun H1 e Q q =>
  ha H1 e _ fun x H2 e2 ⟨b, xs, ex, h, p⟩ => hb H2 (e.trans e2) _ fun H3 e3 => by
    obtain ⟨y, hy, ry⟩ := Paired.at' p hj
    exact ⟨b, xs, (j : Int), y, ex, rfl, st_of (e3 _ _ h), atI_nat hy, q y H3 (e2.trans e3) (s H2 H3 y a (Ex.tx e3) ry)⟩
theorem evd_ixL {α : Type} {R : Rep α} {l : List α} {j : Nat} {a : α} (s : Stab R) (ha : EvD ta σ H fun v H1 => rLst R H1 v l) (hb : Ev tb σ H (.int (j : Int))) (hj : l[j]? = some a) : EvD (tOp (rIxL K) ta tb) σ H fun v H1 => R H1 v a := fun H1 e Q q =>
  ha H1 e _ fun x H2 e2 ⟨b, xs, ex, h, p⟩ => hb H2 (e.trans e2) _ fun H3 e3 => by
    obtain ⟨y, hy, ry⟩ := Paired.at' p hj
    exact ⟨b, xs, (j : Int), y, ex, rfl, sq_of (e3 _ _ h), atI_nat hy, q y H3 (e2.trans e3) (s H2 H3 y a (Ex.tx e3) ry)⟩
theorem ev_and2 {a b : Bool} (h1 : Ev ta σ H (.bl a)) (h2 : Ev tb σ H (.bl b)) : Ev (tAndV ta tb) σ H (.bl (a && b)) := ev_andV h1 fun _ => h2
end
/-! ### == of data -/
mutual
theorem Dp.tx {K : PySem.W.Frag} {H H' : Hp} (e : Ex H H') : ∀ (d : PyData) (v : V), Dp K H v d → Dp K H' v d
  | .none, _, h => by cases h; exact .non
  | .bool b, _, h => by cases h; exact .bl b
  | .int i, _, h => by cases h; exact .int i
  | .str x, _, h => by cases h; exact .str x
  | .list ds, _, h => by cases h with | lst hs ha => exact .lst (ex_l e hs) (DpAll.tx e ds _ ha)
  | .tuple ds, _, h => by cases h with | tup hs ha => exact .tup (ex_t e hs) (DpAll.tx e ds _ ha)
  | .dict _, _, h => by cases h
theorem DpAll.tx {K : PySem.W.Frag} {H H' : Hp} (e : Ex H H') : ∀ (ds : List PyData) (vs : List V), DpAll K H vs ds → DpAll K H' vs ds
  | [], _, h => by cases h; exact .nil
  | d :: ds, _, h => by cases h with | cons h1 h2 => exact .cons (Dp.tx e d _ h1) (DpAll.tx e ds _ h2)
end
def dRow (ns : List Int) : PyData := .tuple (ns.map .int)
def dRows (rs : List (List Int)) : PyData := .list (rs.map dRow)
theorem dp_ints {K : PySem.W.Frag} {H : Hp} : ∀ ns : List Int, DpAll K H (ns.map V.int) (ns.map .int)
  | [] => .nil
  | n :: r => .cons (.int n) (dp_ints r)
theorem dp_row {K : PySem.W.Frag} {H : Hp} {v : V} {ns : List Int} (h : rRow H v ns) : Dp K H v (dRow ns) := by
  obtain ⟨a, rfl, h⟩ := h
  exact .tup (st_of h) (dp_ints ns)
theorem dp_rowsAll {K : PySem.W.Frag} {H : Hp} : ∀ {xs : List V} {rs : List (List Int)}, Paired (rRow H) xs rs → DpAll K H xs (rs.map dRow)
  | _, _, .nil => .nil
  | _, _, .cons r t => .cons (dp_row r) (dp_rowsAll t)
theorem dp_rows {K : PySem.W.Frag} {H : Hp} {v : V} {rs : List (List Int)} (h : rLst rRow H v rs) : Dp K H v (dRows rs) := by
  obtain ⟨a, xs, rfl, h, p⟩ := h
  exact .lst (sq_of h) (dp_rowsAll p)
theorem dp_list {K : PySem.W.Frag} {H : Hp} {v : V} {ns : List Int} (h : rLst rI H v ns) : Dp K H v (.list (ns.map .int)) := by
  obtain ⟨a, xs, rfl, h, p⟩ := h
  rw [ints_of_pi p] at h
  exact .lst (sq_of h) (dp_ints ns)
theorem eqv_ints : ∀ xs ys : List Int, PyData.eqvAll (xs.map .int) (ys.map .int) = decide (xs = ys)
  | [], [] => by simp [PyData.eqvAll]
  | [], y :: ys => by simp [PyData.eqvAll]
  | x :: xs, [] => by simp [PyData.eqvAll]
  | x :: xs, y :: ys => by
    rw [List.map_cons, List.map_cons, PyData.eqvAll, eqv_ints xs ys]
    simp only [PyData.eqv]
    rw [Bool.eq_iff_iff]
    simp
theorem eqv_row (xs ys : List Int) : PyData.eqv (dRow xs) (dRow ys) = decide (xs = ys) := by
  unfold dRow
  rw [PyData.eqv, eqv_ints]
theorem eqv_list (xs ys : List Int) : PyData.eqv (.list (xs.map .int)) (.list (ys.map .int)) = decide (xs = ys) := by
  rw [PyData.eqv, eqv_ints]
theorem eqv_rowsAll : ∀ xs ys : List (List Int), PyData.eqvAll (xs.map dRow) (ys.map dRow) = decide (xs = ys)
  | [], [] => by simp [PyData.eqvAll]
  | [], y :: ys => by simp [PyData.eqvAll]
  | x :: xs, [] => by simp [PyData.eqvAll]
  | x :: xs, y :: ys => by
    rw [List.map_cons, List.map_cons, PyData.eqvAll, eqv_rowsAll xs ys, eqv_row]
    rw [Bool.eq_iff_iff]
    simp
theorem eqv_rows (xs ys : List (List Int)) : PyData.eqv (dRows xs) (dRows ys) = decide (xs = ys) := by
  unfold dRows
  rw [PyData.eqv, eqv_rowsAll]
theorem lay_ints : ∀ ns : List Int, PyData.canLayAll0 (ns.map .int) = true ∧ PyData.depthAll (ns.map .int) = 0
  | [] => by simp [PyData.canLayAll0, PyData.depthAll]
  | n :: r => by
    obtain ⟨h1, h2⟩ := lay_ints r
    simp [PyData.canLayAll0, PyData.depthAll, PyData.canLay0, PyData.depth, h1, h2]
theorem lay_row (ns : List Int) : (dRow ns).canLay0 = true ∧ (dRow ns).depth = 1 := by
  obtain ⟨h1, h2⟩ := lay_ints ns
  simp [dRow, PyData.canLay0, PyData.depth, h1, h2]
theorem lay_rows : ∀ rs : List (List Int), PyData.canLayAll0 (rs.map dRow) = true ∧ PyData.depthAll (rs.map dRow) ≤ 1
  | [] => by simp [PyData.canLayAll0, PyData.depthAll]
  | n :: r => by
    obtain ⟨h1, h2⟩ := lay_rows r
    obtain ⟨h3, h4⟩ := lay_row n
    simp only [List.map_cons, PyData.canLayAll0, PyData.depthAll, h1, h3, h4, Bool.and_self, true_and]
    omega
theorem shaped_of {d : PyData} (h : d.canLay0 = true) (h2 : d.depth ≤ 64) : SeqAt.shaped d = true := by
  show (d.canLay0 && decide (d.depth ≤ 64)) = true
  rw [Bool.and_eq_true]
  exact ⟨h, decide_eq_true h2⟩
theorem sh_row (ns : List Int) : SeqAt.shaped (dRow ns) = true := shaped_of (lay_row ns).1 (by rw [(lay_row ns).2]; decide)
theorem sh_list (ns : List Int) : SeqAt.shaped (.list (ns.map .int)) = true := by
  obtain ⟨h1, h2⟩ := lay_ints ns
  exact shaped_of (by simp [PyData.canLay0, h1]) (by simp [PyData.depth, h2])
theorem sh_rows (rs : List (List Int)) : SeqAt.shaped (dRows rs) = true := by
  obtain ⟨h1, h2⟩ := lay_rows rs
  refine shaped_of (by simp [dRows, PyData.canLay0, h1]) ?_
  simp only [dRows, PyData.depth]
  omega
theorem any_rows (r : List Int) : ∀ rs : List (List Int), ((rs.map dRow).any fun z => PyData.eqv z (dRow r)) = decide (r ∈ rs)
  | [] => rfl
  | a :: rs => by
    rw [List.map_cons, List.any_cons, any_rows r rs, eqv_row, Bool.eq_iff_iff]
    simp only [Bool.or_eq_true, decide_eq_true_eq, List.mem_cons]
    constructor <;> rintro (h | h) <;> first | exact .inr h | exact .inl h.symm
section
variable {K : PySem.W.Frag} {σ : L2.St} {H H' : Hp} {ta tb te : TE}
theorem ev_eqRow {xs ys : List Int} (ha : EvD ta σ H fun v H1 => rRow H1 v xs) (hb : EvD tb σ H fun v H1 => rRow H1 v ys) : Ev (tOp (rEqD K) ta tb) σ H (.bl (decide (xs = ys))) := fun H1 e Q q =>
  ha H1 e _ fun x H2 e2 px => hb H2 (e.trans e2) _ fun y H3 e3 py => ⟨dRow xs, dRow ys, dp_row (st_row _ _ _ _ (Ex.tx e3) px), dp_row py, sh_row xs, sh_row ys, by
    rw [eqv_row]
    exact q H3 (e2.trans e3)⟩
theorem ev_neRow {xs ys : List Int} (ha : EvD ta σ H fun v H1 => rRow H1 v xs) (hb : EvD tb σ H fun v H1 => rRow H1 v ys) : Ev (tOp (rNeD K) ta tb) σ H (.bl (!decide (xs = ys))) := fun H1 e Q q =>
  ha H1 e _ fun x H2 e2 px => hb H2 (e.trans e2) _ fun y H3 e3 py => ⟨dRow xs, dRow ys, dp_row (st_row _ _ _ _ (Ex.tx e3) px), dp_row py, sh_row xs, sh_row ys, by
    rw [eqv_row]
    exact q H3 (e2.trans e3)⟩
theorem ev_eqL {xs ys : List Int} (ha : EvN ta σ H fun v H1 => rLst rI H1 v xs) (hb : EvN tb σ H fun v H1 => rLst rI H1 v ys) : Ev (tOp (rEqD K) ta tb) σ H (.bl (decide (xs = ys))) := fun H1 e Q q =>
  ha H1 e _ fun x H2 _ e2 px => hb H2 (e.trans e2) _ fun y H3 _ e3 py => ⟨_, _, Dp.tx e3 _ _ (dp_list px), dp_list py, sh_list xs, sh_list ys, by
    rw [eqv_list]
    exact q H3 (e2.trans e3)⟩
theorem ev_neL {xs ys : List Int} (ha : EvD ta σ H fun v H1 => rLst rI H1 v xs) (hb : EvD tb σ H fun v H1 => rLst rI H1 v ys) : Ev (tOp (rNeD K) ta tb) σ H (.bl (!decide (xs = ys))) := fun H1 e Q q =>
  ha H1 e _ fun x H2 e2 px => hb H2 (e.trans e2) _ fun y H3 e3 py => ⟨_, _, Dp.tx e3 _ _ (dp_list px), dp_list py, sh_list xs, sh_list ys, by
    rw [eqv_list]
    exact q H3 (e2.trans e3)⟩
theorem ev_neRows {xs ys : List (List Int)} (ha : EvD ta σ H fun v H1 => rLst rRow H1 v xs) (hb : EvD tb σ H fun v H1 => rLst rRow H1 v ys) : Ev (tOp (rNeD K) ta tb) σ H (.bl (!decide (xs = ys))) := fun H1 e Q q =>
  ha H1 e _ fun x H2 e2 px => hb H2 (e.trans e2) _ fun y H3 e3 py => ⟨_, _, Dp.tx e3 _ _ (dp_rows px), dp_rows py, sh_rows xs, sh_rows ys, by
    rw [eqv_rows]
    exact q H3 (e2.trans e3)⟩
/-- a row in a list of rows -/
theorem ev_inRows {r : List Int} {rs : List (List Int)} (ha : EvD ta σ H fun v H1 => rRow H1 v r) (hb : EvD tb σ H fun v H1 => rLst rRow H1 v rs) : Ev (tOp (rInD K) ta tb) σ H (.bl (decide (r ∈ rs))) := fun H1 e Q q =>
  ha H1 e _ fun x H2 e2 px => hb H2 (e.trans e2) _ fun y H3 e3 py => ⟨dRow r, rs.map dRow, dp_row (st_row _ _ _ _ (Ex.tx e3) px), dp_rows py, sh_row r, sh_rows rs, by
    rw [any_rows]
    exact q H3 (e2.trans e3)⟩
theorem ev_niRows {r : List Int} {rs : List (List Int)} (ha : EvD ta σ H fun v H1 => rRow H1 v r) (hb : EvD tb σ H fun v H1 => rLst rRow H1 v rs) : Ev (tOp (rNotInD K) ta tb) σ H (.bl (!decide (r ∈ rs))) := fun H1 e Q q =>
  ha H1 e _ fun x H2 e2 px => hb H2 (e.trans e2) _ fun y H3 e3 py => ⟨dRow r, rs.map dRow, dp_row (st_row _ _ _ _ (Ex.tx e3) px), dp_rows py, sh_row r, sh_rows rs, by
    rw [any_rows]
    exact q H3 (e2.trans e3)⟩
end
/-! ### what is walked -/
def Src {α : Type} (wi : TI) (σ : L2.St) (H : Hp) (M : Addr → Prop) (R : Rep α) (ls : List α) : Prop := ∀ H1, Ex H H1 → ∀ Rk : It → Hp → Prop,
  (∀ J H2, Ex H1 H2 → Walk J ls.length (fun H' => Kp M H2 H') (fun i H' x H'' => H'' = H' ∧ ∃ l, ls[i]? = some l ∧ R H' x l) → Rk J H2) → wi σ H1 Rk
section
variable {K : PySem.W.Frag} {σ : L2.St} {H H' : Hp} {ta tb te : TE} {α β : Type} {R : Rep α} {ls : List α} {M : Addr → Prop}
theorem src_tup (s : Stab R) (m : MOk M H) (h : EvD te σ H fun v H1 => rTup R H1 v ls) : Src (iTup K te) σ H M R ls := fun H1 e Rk q =>
  h H1 e _ fun x H2 e2 ⟨a, xs, ex, ha, p⟩ => by
    have m2 := m.mono (e.trans e2)
    have na : ¬ M a := fun z => by
      obtain ⟨o, h1, h2⟩ := m2 a z
      rw [ha] at h1
      exact h2 xs (Option.some.inj h1).symm
    refine ⟨a, ex, ⟨xs, st_of ha⟩, q _ H2 e2 ?_⟩
    rw [← Paired.length p]
    refine (walk_tup (K := K) (a := a) (xs := xs)).mono (fun H' k => st_of (k a _ na ha)) fun i H' x H'' hi k y => ⟨y.1, ?_⟩
    obtain ⟨l, h1, h2⟩ := Paired.at p y.2
    exact ⟨l, h1, s _ _ _ _ (k.tx m2) h2⟩
theorem src_lst (s : Stab R) (m : MOk M H) (h : EvN te σ H fun v H1 => rLst R H1 v ls) : Src (iList K te) σ H M R ls := fun H1 e Rk q =>
  h H1 e _ fun b H2 nb e2 ⟨a, xs, ex, ha, p⟩ => by
    have eb : b = a := V.ref.inj ex
    subst eb
    have m1 := m.mono e
    have m2 := m.mono (e.trans e2)
    have na : ¬ M b := fun z => by
      obtain ⟨o, h1, h2⟩ := m1 b z
      rw [nb] at h1
      cases h1
    refine ⟨b, rfl, ⟨xs, sq_of ha⟩, q _ H2 e2 ?_⟩
    rw [← Paired.length p]
    refine (walk_list (K := K) (a := b) (xs := xs)).mono (fun H' k => sq_of (k b _ na ha)) fun i H' x H'' hi k y => ⟨y.1, ?_⟩
    obtain ⟨l, h1, h2⟩ := Paired.at p y.2
    exact ⟨l, h1, s _ _ _ _ (k.tx m2) h2⟩
/-- a list that stands -/
theorem src_lstK {a : Addr} {xs : List V} (s : Stab R) (m : MOk M H) (h : Ev te σ H (.ref a)) (ha : H a = some (.lst xs)) (na : ¬ M a) (p : Paired (R H) xs ls) : Src (iList K te) σ H M R ls := fun H1 e Rk q =>
  h H1 e _ fun H2 e2 => by
    have m2 := m.mono (e.trans e2)
    have ha2 := e2 _ _ (e _ _ ha)
    refine ⟨a, rfl, ⟨xs, sq_of ha2⟩, q _ H2 e2 ?_⟩
    rw [← Paired.length p]
    refine (walk_list (K := K) (a := a) (xs := xs)).mono (fun H' k => sq_of (k a _ na ha2)) fun i H' x H'' hi k y => ⟨y.1, ?_⟩
    obtain ⟨l, h1, h2⟩ := Paired.at p y.2
    exact ⟨l, h1, s _ _ _ _ ((Ex.tx (e.trans e2)).trans (k.tx m2)) h2⟩
/-- a comprehension -/
theorem evn_lc {wi : TI} {j : Nat} {tt : TT} {vs : List Nat} {R2 : Rep β} {f : α → Bool} {g : α → β} (hs : Src wi σ H M0 R ls) (s2 : Stab R2) (hz : ls.length ≤ 40000) (hw : ∀ x, wipe ((wipe σ vs).set j (some x)) vs = wipe σ vs)
    (ht : ∀ H1 x l, Ex H H1 → l ∈ ls → R H1 x l → EvT tt ((wipe σ vs).set j (some x)) H1 (f l))
    (he : ∀ H1 x l, Ex H H1 → l ∈ ls → R H1 x l → f l = true → EvD te ((wipe σ vs).set j (some x)) H1 fun y H2 => R2 H2 y (g l)) :
    EvN (tLc wi (gName j) tt te vs) σ H fun v H1 => rLst R2 H1 v ((ls.filter f).map g) := fun H0 e0 Q q => by
  refine hs H0 e0 _ fun J H1 e1 W D hD => ?_
  refine lc_it W (Pv := fun i H' => Ex H1 H' ∧ ∃ ys, H' D = some (.lst ys) ∧ Paired (R2 H') ys (((ls.take i).filter f).map g) ∧ ys.length ≤ i) ⟨Ex.new hD, [], upd_same, .nil, Nat.le_refl _⟩ (fun i H' _ p => Kp.of_ex p.1) ?_ ?_
  · rintro i x H' H'' hi ⟨ex, ys, hy, py, hl⟩ ⟨rfl, l, hl1, rl⟩
    have hm : l ∈ ls := List.mem_of_getElem? hl1
    have et : ls.take (i + 1) = ls.take i ++ [l] := by rw [List.take_add_one, hl1] <;> rfl
    have exx := (e0.trans e1).trans ex
    refine ⟨hw x, ht H'' x l exx hm rl H'' (Ex.refl _) _ fun H3 e3 => ?_⟩
    cases hf : f l with
    | true =>
      rw [if_pos rfl]
      refine he H'' x l exx hm rl hf H3 e3 _ fun y H4 e4 ry => ⟨ys, e4 _ _ (e3 _ _ hy), sz_lt (by omega), Ex.mut ((ex.trans e3).trans e4) hD, ys ++ [y], upd_same, ?_, by rw [List.length_append]; simp; omega⟩
      rw [et, List.filter_append, List.map_append, List.filter_cons, if_pos hf]
      have tx : Tx H'' (upd H4 D (.lst (ys ++ [y]))) := (Ex.tx (e3.trans e4)).mut (e4 _ _ (e3 _ _ hy)) (fun _ z => by cases z)
      have tx4 : Tx H4 (upd H4 D (.lst (ys ++ [y]))) := (Ex.tx (Ex.refl H4)).mut (e4 _ _ (e3 _ _ hy)) (fun _ z => by cases z)
      exact Paired.snoc' (Paired.st s2 tx py) (s2 _ _ _ _ tx4 ry)
    | false =>
      rw [if_neg Bool.false_ne_true]
      refine ⟨ex.trans e3, ys, e3 _ _ hy, ?_, by omega⟩
      rw [et, List.filter_append, List.map_append, List.filter_cons, if_neg (by rw [hf]; exact Bool.false_ne_true), List.filter_nil, List.map_nil, List.append_nil]
      exact Paired.st s2 (Ex.tx e3) py
  · rintro H' ⟨ex, ys, hy, py, _⟩
    rw [List.take_length] at py
    exact q D H' (fresh_back e1 hD) (e1.trans ex) ⟨D, ys, rfl, hy, py⟩
theorem ev_yes : EvT tYes σ H true := fun H1 _ Q q => q H1 (Ex.refl H1)
/-- .. without a test -/
theorem evn_lc0 {wi : TI} {j : Nat} {vs : List Nat} {R2 : Rep β} {g : α → β} (hs : Src wi σ H M0 R ls) (s2 : Stab R2) (hz : ls.length ≤ 40000) (hw : ∀ x, wipe ((wipe σ vs).set j (some x)) vs = wipe σ vs)
    (he : ∀ H1 x l, Ex H H1 → l ∈ ls → R H1 x l → EvD te ((wipe σ vs).set j (some x)) H1 fun y H2 => R2 H2 y (g l)) :
    EvN (tLc wi (gName j) tYes te vs) σ H fun v H1 => rLst R2 H1 v (ls.map g) := by
  have := evn_lc (te := te) (f := fun _ => true) (g := g) hs s2 hz hw (fun _ _ _ _ _ _ => ev_yes) (fun H1 x l a b c _ => he H1 x l a b c)
  rw [List.filter_eq_self.mpr fun _ _ => rfl] at this
  exact this
/-- a for -/
theorem s_for {wi : TI} {g : TG} {tb : TS} {D : Ends} (hs : Src wi σ H M R ls) (Pv : Hp → Nat → L2.St → Hp → Prop) (h0 : ∀ H1, Ex H H1 → Pv H1 0 σ H1) (hk : ∀ H1 i σ' H', Pv H1 i σ' H' → Kp M H1 H')
    (ht : ∀ H1 i x l σ' H', Ex H H1 → ls[i]? = some l → R H' x l → Pv H1 i σ' H' → g x σ' H' fun σ2 H2 => tb { D with nx := Pv H1 (i + 1), ct := Pv H1 (i + 1), bk := D.nx } σ2 H2) (hd : ∀ H1 σ' H', Ex H H1 → Pv H1 ls.length σ' H' → D.nx σ' H') : tFor wi g tb D σ H := by
  refine hs H (Ex.refl H) _ fun J H1 e1 W => ?_
  exact for_it W (Pv H1) (h0 H1 e1) (fun i σ' H' _ p => hk H1 i σ' H' p) (fun i x σ' H' H'' hi p y => by
    obtain ⟨e, l, h1, h2⟩ := y
    subst e
    exact ht H1 i x l σ' H'' e1 h1 h2 p) (fun σ' H' p => hd H1 σ' H' e1 p)
/-- for x in ..: if t: found.append(e) -/
theorem s_acc {wi : TI} {j k : Nat} {p : Addr} {tt : TT} {D : Ends} {R2 : Rep β} {f : α → Bool} {g : α → β} (hs : Src wi σ H (fun b => b = p) R ls) (s2 : Stab R2) (hz : ls.length ≤ 40000) (hp : H p = some (.lst []))
    (hv : ∀ x, (σ.set j x)[k]? = some (some (.ref p)))
    (ht : ∀ H1 x l, Kp (fun b => b = p) H H1 → l ∈ ls → R H1 x l → EvT tt (σ.set j (some x)) H1 (f l))
    (he : ∀ H1 x l, Kp (fun b => b = p) H H1 → l ∈ ls → R H1 x l → f l = true → EvD te (σ.set j (some x)) H1 fun y H2 => R2 H2 y (g l))
    (hd : ∀ y H', Kp (fun b => b = p) H H' → (∃ ys, H' p = some (.lst ys) ∧ Paired (R2 H') ys ((ls.filter f).map g)) → (σ' : L2.St) → σ' = σ ∨ σ' = σ.set j y → D.nx σ' H') :
    tFor wi (gName j) (tIfS tt (tDrop (tBM K "list" rAppend (tVar k) (tCons te tNil))) tNext) D σ H := by
  refine s_for hs (fun H1 i σ' H' => (σ' = σ ∨ ∃ y, σ' = σ.set j y) ∧ Kp (fun b => b = p) H1 H' ∧ ∃ ys, H' p = some (.lst ys) ∧ Paired (R2 H') ys (((ls.take i).filter f).map g) ∧ ys.length ≤ i) (fun H1 e => ⟨.inl rfl, Kp.refl _, [], e _ _ hp, .nil, Nat.le_refl _⟩) (fun _ _ _ _ h => h.2.1) ?_ ?_
  · rintro H1 i x l σ' H' e1 hl rl ⟨hσ, kp, ys, hy, py, hlen⟩
    have hm : l ∈ ls := List.mem_of_getElem? hl
    have et : ls.take (i + 1) = ls.take i ++ [l] := by rw [List.take_add_one, hl] <;> rfl
    have hi : i < ls.length := (List.getElem?_eq_some_iff.mp hl).1
    have es : σ'.set j (some x) = σ.set j (some x) := by
      rcases hσ with rfl | ⟨y, rfl⟩
      · rfl
      · rw [List.set_set]
    show tIfS tt _ _ _ (σ'.set j (some x)) H'
    rw [es]
    have kp' : Kp (fun b => b = p) H H' := (Kp.of_ex e1).trans kp
    refine s_if (ht H' x l kp' hm rl) (fun hf H2 e2 => ?_) (fun hf H2 e2 => ?_)
    · refine ⟨.ref p, hv _, .inl ⟨rfl, ys, sq_of (e2 _ _ hy)⟩, ?_⟩
      refine he H' x l kp' hm rl hf H2 e2 _ fun y H3 e3 ry => ⟨p, ys, y, rfl, rfl, e3 _ _ (e2 _ _ hy), sz_lt (by omega), .inr ⟨_, rfl⟩, ((kp.trans (Kp.of_ex e2)).trans (Kp.of_ex e3)).mut rfl, ys ++ [y], upd_same, ?_, by rw [List.length_append]; simp; omega⟩
      rw [et, List.filter_append, List.map_append, List.filter_cons, if_pos hf]
      have tx : Tx H' (upd H3 p (.lst (ys ++ [y]))) := (Ex.tx (e2.trans e3)).mut (e3 _ _ (e2 _ _ hy)) (fun _ z => by cases z)
      have tx4 : Tx H3 (upd H3 p (.lst (ys ++ [y]))) := (Ex.tx (Ex.refl H3)).mut (e3 _ _ (e2 _ _ hy)) (fun _ z => by cases z)
      exact Paired.snoc' (Paired.st s2 tx py) (s2 _ _ _ _ tx4 ry)
    · refine ⟨.inr ⟨_, rfl⟩, kp.trans (Kp.of_ex e2), ys, e2 _ _ hy, ?_, by omega⟩
      rw [et, List.filter_append, List.map_append, List.filter_cons, if_neg (by rw [hf]; exact Bool.false_ne_true), List.filter_nil, List.map_nil, List.append_nil]
      exact Paired.st s2 (Ex.tx e2) py
  · rintro H1 σ' H' e1 ⟨hσ, kp, ys, hy, py, _⟩
    rw [List.take_length] at py
    rcases hσ with rfl | ⟨y, rfl⟩
    · exact hd none H' ((Kp.of_ex e1).trans kp) ⟨ys, hy, py⟩ _ (.inl rfl)
    · exact hd y H' ((Kp.of_ex e1).trans kp) ⟨ys, hy, py⟩ _ (.inr rfl)
/-! statements -/
variable {D : Ends} {tz tu : TS} {i : Nat} {P : V → Hp → Prop}
theorem s_asgD (h : EvD te σ H P) (k : ∀ v H1, Ex H H1 → P v H1 → D.nx (σ.set i (some v)) H1) : tAsg te (gName i) D σ H := h H (Ex.refl H) _ fun v H1 e p => k v H1 e p
theorem s_asgN (h : EvN te σ H P) (k : ∀ v H1, H v = none → Ex H H1 → P (.ref v) H1 → D.nx (σ.set i (some (.ref v))) H1) : tAsg te (gName i) D σ H := h H (Ex.refl H) _ fun v H1 n e p => k v H1 n e p
theorem q_asgD (h : EvD te σ H P) (k : ∀ v H1, Ex H H1 → P v H1 → tz D (σ.set i (some v)) H1) : tSeq (tAsg te (gName i)) tz D σ H := s_asgD (D := { D with nx := tz D }) h k
theorem q_asgN (h : EvN te σ H P) (k : ∀ v H1, H v = none → Ex H H1 → P (.ref v) H1 → tz D (σ.set i (some (.ref v))) H1) : tSeq (tAsg te (gName i)) tz D σ H := s_asgN (D := { D with nx := tz D }) h k
theorem s_retD (h : EvD te σ H P) (k : ∀ v H1, Ex H H1 → P v H1 → D.rt v H1) : tRet te D σ H := h H (Ex.refl H) _ k
theorem s_retN (h : EvN te σ H P) (k : ∀ p H1, H p = none → Ex H H1 → P (.ref p) H1 → D.rt (.ref p) H1) : tRet te D σ H := h H (Ex.refl H) _ k
theorem q_dropD (h : EvD te σ H P) (k : ∀ v H1, Ex H H1 → P v H1 → tz D σ H1) : tSeq (tDrop te) tz D σ H := h H (Ex.refl H) _ fun v H1 e p => k v H1 e p
theorem s_dropD (h : EvD te σ H P) (k : ∀ v H1, Ex H H1 → P v H1 → D.nx σ H1) : tDrop te D σ H := h H (Ex.refl H) _ fun v H1 e p => k v H1 e p
/-- a test that never holds: the branch is not asked -/
theorem q_never {t : TT} (h : EvT t σ H false) (k : ∀ H1, Ex H H1 → tz D σ H1) : tSeq (tIfS t tu tNext) tz D σ H := q_when h (fun z => by cases z) fun _ => k
theorem s_never {t : TT} (h : EvT t σ H false) (k : ∀ H1, Ex H H1 → D.nx σ H1) : tIfS t tu tNext D σ H := s_when h (fun z => by cases z) fun _ => k
theorem q_newL (k : ∀ p, H p = none → tz D (σ.set i (some (.ref p))) (upd H p (.lst []))) : tSeq (tAsg (tLst tNil) (gName i)) tz D σ H := ⟨Nat.zero_le _, fun p np => k p np⟩
end
end K87
set_option Elab.async false
set_option linter.all false
set_option maxRecDepth 100000
set_option maxHeartbeats 4000000
namespace K87
open PySem PySem.W L2 Evl PyProof.Rows
open C8 (Cal pe_c)
/-! ### min of a list of (int, row) -/
def dPair (d : Int × List Int) : PyData := .tuple [.int d.1, dRow d.2]
theorem dp_pair {K : PySem.W.Frag} {H : Hp} {v : V} {d : Int × List Int} (h : rPair H v d) : Dp K H v (dPair d) := by
  obtain ⟨t, u, rfl, h, h2⟩ := h
  exact .tup (st_of h) (.cons (.int _) (.cons (dp_row ⟨u, rfl, h2⟩) .nil))
theorem dp_pairs {K : PySem.W.Frag} {H : Hp} : ∀ {xs : List V} {rs : List (Int × List Int)}, Paired (rPair H) xs rs → DpAll K H xs (rs.map dPair)
  | _, _, .nil => .nil
  | _, _, .cons r t => .cons (dp_pair r) (dp_pairs t)
theorem alike_pair (a b : Int × List Int) : alike (dPair a) (dPair b) = true := by
  unfold dPair dRow
  simp only [alike, alikeAll, Bool.and_eq_true, and_true]
  exact ⟨trivial, alike_ints a.2 b.2⟩
theorem pair_lt (a b : Int × List Int) : (dataLt (dPair a) (dPair b) = true → a.1 ≤ b.1) ∧ (dataLt (dPair a) (dPair b) = false → b.1 ≤ a.1) := by
  unfold dPair
  have hr : alike (dRow a.2) (dRow b.2) = true := by unfold dRow; simp only [alike]; exact alike_ints _ _
  rw [dataLt_pair rfl hr, dataLt_int]
  simp only [PyData.eqv, beq_iff_eq]
  by_cases e : a.1 = b.1
  · rw [if_pos e]
    constructor <;> intro _ <;> omega
  · rw [if_neg e]
    constructor
    · intro h; have := of_decide_eq_true h; omega
    · intro h; have := of_decide_eq_false h; omega
theorem min_pair : ∀ (ds : List (Int × List Int)) (d : Int × List Int), ∃ m, m ∈ d :: ds ∧ minD (dPair d) (ds.map dPair) = dPair m ∧ ∀ e ∈ d :: ds, m.1 ≤ e.1
  | [], d => ⟨d, by simp, rfl, fun e he => by simp at he; rw [he]; exact Int.le_refl _⟩
  | x :: ds, d => by
    have hl := pair_lt x d
    have hm : minD (dPair d) ((x :: ds).map dPair) = minD (if dataLt (dPair x) (dPair d) = true then dPair x else dPair d) (ds.map dPair) := by
      unfold minD
      rw [List.map_cons, List.foldl_cons]
    rw [hm]
    cases hb : dataLt (dPair x) (dPair d) with
    | true =>
      rw [if_pos rfl]
      obtain ⟨m, h1, h2, h3⟩ := min_pair ds x
      have := hl.1 hb
      refine ⟨m, List.mem_cons_of_mem _ h1, h2, fun e he => ?_⟩
      rcases List.mem_cons.mp he with rfl | he
      · have := h3 x (by simp); omega
      · exact h3 e he
    | false =>
      rw [if_neg Bool.false_ne_true]
      obtain ⟨m, h1, h2, h3⟩ := min_pair ds d
      have := hl.2 hb
      refine ⟨m, ?_, h2, fun e he => ?_⟩
      · rcases List.mem_cons.mp h1 with rfl | h1
        · simp
        · exact List.mem_cons_of_mem _ (List.mem_cons_of_mem _ h1)
      · rcases List.mem_cons.mp he with rfl | he
        · exact h3 e (by simp)
        · rcases List.mem_cons.mp he with rfl | he
          · have := h3 d (by simp); omega
          · exact h3 e (List.mem_cons_of_mem _ he)
theorem dPair_inj {a b : Int × List Int} (h : dPair a = dPair b) : a.1 = b.1 := by
  unfold dPair at h
  injection h with h
  injection h with h _
  injection h
theorem depth_pairs : ∀ rs : List (Int × List Int), PyData.depthAll (rs.map dPair) ≤ 2
  | [] => by simp [PyData.depthAll]
  | d :: r => by
    have h1 := depth_pairs r
    have h2 := (lay_row d.2).2
    simp only [List.map_cons, PyData.depthAll, dPair, PyData.depth, h2]
    omega
def rMinPr (K : PySem.W.Frag) : List V → Hp → VK → Prop := fun vs H Q => ∃ (a : Addr) (xs : List V) (ds : List (Int × List Int)), vs = [V.ref a] ∧ SqL K H a xs ∧ Paired (rPair H) xs ds ∧ ds ≠ [] ∧
  ∀ x d, d ∈ ds → rPair H x d → (∀ e ∈ ds, d.1 ≤ e.1) → Q x H
theorem cr_minP {X : Cx} (hc : X.calm = true) (hu : X.A.units + 64 < cLine) : CallR X (.builtin "min") (rMinPr X.K) := by
  intro pins s σ H vs us Q I r h
  obtain ⟨a, xs, ds, rfl, hs, hp, hne, q⟩ := h
  obtain ⟨its, rv, hl, hz⟩ := I.list hs
  rw [Vals.ref1 r]
  obtain ⟨d0, dr, rfl⟩ : ∃ d0 dr, ds = d0 :: dr := by
    cases ds with
    | nil => exact absurd rfl hne
    | cons d0 dr => exact ⟨d0, dr, rfl⟩
  obtain ⟨as, ra⟩ := Dp.readsAll I _ _ its (dp_pairs (K := X.K) hp) rv
  have ra' : ReadsAll s.heap its.toArray.toList (dPair d0 :: dr.map dPair) as := by simpa using ra
  refine min_list_data (I.ok.hd hc) hl.isList ra' ⟨fun x hx y hy => ?_, fun x hx => ?_⟩ (by have := depth_pairs (d0 :: dr); rw [List.map_cons] at this; omega) fun i v h' tk bs hv hr hk => ?_
  · rw [← List.map_cons] at hx hy
    obtain ⟨a, _, rfl⟩ := List.mem_map.mp hx
    obtain ⟨b, _, rfl⟩ := List.mem_map.mp hy
    exact alike_pair a b
  · rw [← List.map_cons] at hx
    obtain ⟨a, _, rfl⟩ := List.mem_map.mp hx
    intro z
    cases z
  · obtain ⟨m, h1, h2, h3⟩ := min_pair dr d0
    have hv2 : its[i]? = some v := by simpa using hv
    have hi : i < xs.length := by
      have := (List.getElem?_eq_some_iff.mp hv2).1
      rw [rv.length]; exact this
    have hxi : xs[i]? = some xs[i] := List.getElem?_eq_getElem hi
    obtain ⟨u, hu1, hu2⟩ := rv.get hxi
    have euv : u = v := by rw [hv2] at hu1; exact (Option.some.inj hu1).symm
    subst euv
    obtain ⟨d, hd1, hd2⟩ := Paired.at hp hxi
    obtain ⟨as2, rd⟩ := Dp.reads I _ _ u (dp_pair (K := X.K) hd2) hu2
    have rd' : Reads h' u (dPair d) as2 := reads_keeps hk rd
    rw [h2] at hr
    have ed := alike_unique _ _ u _ _ (alike_pair m d) hr rd'
    have e1 := dPair_inj ed
    refine ⟨xs[i], H, I.kept (t' := tk) hk, hu2, q _ d (List.mem_of_getElem? hd1) hd2 fun e he => ?_⟩
    have := h3 e he
    omega
theorem evd_minP {K : PySem.W.Frag} {σ : L2.St} {H : Hp} {ta : TE} {ds : List (Int × List Int)} (hn : ds ≠ []) (ha : EvD ta σ H fun v H1 => rLst rPair H1 v ds) : EvD (tCB (rMinPr K) (tCons ta tNil)) σ H fun v H1 => ∃ d ∈ ds, rPair H1 v d ∧ ∀ e ∈ ds, d.1 ≤ e.1 := fun H1 e Q q =>
  ha H1 e _ fun x H2 e2 ⟨a, xs, ex, h, p⟩ => ⟨a, xs, ds, by rw [ex], sq_of h, p, hn, fun x d hd r hm => q x H2 e2 ⟨d, hd, r, hm⟩⟩
/-! ### the rules with the written part named (for blocks within blocks) -/
section
variable (K : PySem.W.Frag) {X : Cx}
theorem in_seqK (h : X.K = K := by rfl) : OpR X (compareOp .In) (rIn K false) := by subst h; exact op_in_seq
theorem notIn_seqK (h : X.K = K := by rfl) : OpR X (compareOp .NotIn) (rIn K true) := by subst h; exact op_notIn_seq
theorem inDK (hu : X.A.units + 65 < cLine) (h : X.K = K := by rfl) : OpR X (compareOp .In) (rInD K) := by subst h; exact op_inD hu
theorem notInDK (hu : X.A.units + 65 < cLine) (h : X.K = K := by rfl) : OpR X (compareOp .NotIn) (rNotInD K) := by subst h; exact op_notInD hu
theorem eqDK (hu : X.A.units + 64 < cLine) (h : X.K = K := by rfl) : OpR X (compareOp .Eq) (rEqD K) := by subst h; exact op_eqD hu
theorem neDK (hu : X.A.units + 64 < cLine) (h : X.K = K := by rfl) : OpR X (compareOp .NotEq) (rNeD K) := by subst h; exact op_neD hu
theorem catAK (h : X.K = K := by rfl) : OpR X (binaryOp .Add) (rCatA K) := by subst h; exact op_catA
theorem ixTK (h : X.K = K := by rfl) : IxR X (rIxT K) := by subst h; exact ix_tup
theorem ixLK (h : X.K = K := by rfl) : IxR X (rIxL K) := by subst h; exact ix_list
theorem slAK (h : X.K = K := by rfl) : SlR X (rSlA K) := by subst h; exact sl_tupA
theorem lenK (h : X.K = K := by rfl) : CallR X (.builtin "len") (rLenS K) := by subst h; exact call_len_seq
theorem anyK (hc : X.calm = true) (h : X.K = K := by rfl) : CallR X (.builtin "any") (rAny K) := by subst h; exact cr_any hc
theorem allK (hc : X.calm = true) (h : X.K = K := by rfl) : CallR X (.builtin "all") (rAll K) := by subst h; exact cr_all hc
theorem sumK (hc : X.calm = true) (h : X.K = K := by rfl) : CallR X (.builtin "sum") (rSum K) := by subst h; exact cr_sum hc
theorem minK (hc : X.calm = true) (h : X.K = K := by rfl) : CallR X (.builtin "min") (rMin K) := by subst h; exact cr_min hc
theorem minPK (hc : X.calm = true) (hu : X.A.units + 64 < cLine) (h : X.K = K := by rfl) : CallR X (.builtin "min") (rMinPr K) := by subst h; exact cr_minP hc hu
theorem isiK (h : X.K = K := by rfl) : CallR X (.builtin "isinstance") (rIsi K) := by subst h; exact call_isi
theorem tupleK (h : X.K = K := by rfl) : CallR X (.type "tuple") (rTupleOf K) := by subst h; exact call_tuple_of
theorem listK (h : X.K = K := by rfl) : CallR X (.type "list") (rListS K) := by subst h; exact call_list_of
theorem sortRowsK (hu : X.A.units + 64 < cLine) (h : X.K = K := by rfl) : CallR X (.builtin "sorted") (rSortRows K) := by subst h; exact cr_sortRows hu
theorem sortIK (h : X.K = K := by rfl) : CallR X (.builtin "sorted") (rSortedI K) := by subst h; exact cr_sortedI
theorem pi_tupK {tg l : Expr} {tl : TE} (hl : PE X l tl) (h : X.K = K := by rfl) : PI X tg l (iTup K tl) := by subst h; exact pi_tup hl
theorem pi_listK {tg l : Expr} {tl : TE} (hl : PE X l tl) (h : X.K = K := by rfl) : PI X tg l (iList K tl) := by subst h; exact pi_list hl
end
theorem room65 {k : Nat} {A : Around} (hr : Room k A) : A.units + 65 < cLine := by have := hr.un; omega
/-! ### defs -/
/-- a def of the text, as the top left it -/
structure Dn (K : PySem.W.Frag) (mg : Str → Option Value) (x : Str) (st : Stmt) (ps : List Str) : Prop where
  ex : ∃ (f : Addr) (fd : FuncData), Fun K x x st f fd ∧ mg x = some (.ref f) ∧ Binds K fd ps []
/-- the built-in names, not hidden -/
structure Bt (mg : Str → Option Value) : Prop where
  n_isinstance : mg "isinstance" = none
  n_int : mg "int" = none
  n_bool : mg "bool" = none
  n_tuple : mg "tuple" = none
  n_len : mg "len" = none
  n_all : mg "all" = none
  n_any : mg "any" = none
  n_list : mg "list" = none
  n_sorted : mg "sorted" = none
  n_set : mg "set" = none
  n_enumerate : mg "enumerate" = none
  n_sum : mg "sum" = none
  n_min : mg "min" = none
  n_range : mg "range" = none
  most : ∃ t, mg "MOST_PEOPLE" = some (.int 7 t)
section
variable {P : Program} {w : World} {K : PySem.W.Frag} {mg : Str → Option Value} {base : Heap}
theorem mkCal {x : Str} {st : Stmt} {N ps : List Str} {k : Nat} {sp : Sp} (D : Dn K mg x st ps) (S : FnScope N ps (defScope st)) (len : ∀ vs H Q E, sp vs H Q E → vs.length = ps.length)
    (hbody : ∀ (f : Addr) (cdv : Value) (A : Around) (outer : List Env) (s : Shared) (H : Hp) (vs : List V) (Q : VK) (E : XK), Room k (A.deeper (envOfC x (defScope st) s.heap.objs.size f cdv)) → sp vs H Q E →
      ∃ t, PSs (cxOf CX0 P w K mg base N x (defScope st) f cdv A outer s H E).nox (defBody st) t ∧ t { nx := fun _ H' => Q .non H', rt := Q } (start N vs) H) : Cal P w K mg base (k + 1) x sp [] := by
  obtain ⟨f, fd, F, hm, b⟩ := D.ex
  exact ⟨f, fd, ps, [], F.ok S len fun cdv A outer s H vs Q E hr h => hbody f cdv A outer s H vs Q E hr h, hm, F.kp, b, .nil⟩
end
end K87
set_option Elab.async false
set_option linter.all false
set_option maxRecDepth 100000
set_option maxHeartbeats 4000000
namespace K87
open PySem L2 Evl PyProof.Rows
open C8 (Cal pe_c)
/-! ### the text -/
def topS (i : Nat) : Stmt := PySem.Challenge.pw_tallsits_k87_whole_weights_of_callers.main.body.getD i (.Pass ⟨0, 0, 0, 0⟩)
abbrev sIsInteger : Stmt := topS 1
theorem scIsInteger : FnScope ["value"] ["value"] (defScope sIsInteger) := ⟨rfl, rfl, rfl, by decide +kernel, rfl, by decide +kernel, by decide +kernel⟩
abbrev sIsIn : Stmt := topS 2
theorem scIsIn : FnScope ["value", "least", "most"] ["value", "least", "most"] (defScope sIsIn) := ⟨rfl, rfl, rfl, by decide +kernel, rfl, by decide +kernel, by decide +kernel⟩
abbrev sIsList : Stmt := topS 3
theorem scIsList : FnScope ["value", "least", "most"] ["value", "least", "most"] (defScope sIsList) := ⟨rfl, rfl, rfl, by decide +kernel, rfl, by decide +kernel, by decide +kernel⟩
abbrev sNeedWeb : Stmt := topS 13
theorem scNeedWeb : FnScope ["web", "people", "index", "friends", "other"] ["web"] (defScope sNeedWeb) := ⟨rfl, rfl, rfl, by decide +kernel, rfl, by decide +kernel, by decide +kernel⟩
abbrev sIsSet : Stmt := topS 14
theorem scIsSet : FnScope ["web", "people", "many", "person"] ["web", "people"] (defScope sIsSet) := ⟨rfl, rfl, rfl, by decide +kernel, rfl, by decide +kernel, by decide +kernel⟩
abbrev sNeedPeople : Stmt := topS 15
theorem scNeedPeople : FnScope ["web", "people"] ["web", "people"] (defScope sNeedPeople) := ⟨rfl, rfl, rfl, by decide +kernel, rfl, by decide +kernel, by decide +kernel⟩
abbrev sNeedState : Stmt := topS 16
theorem scNeedState : FnScope ["web", "standing"] ["web", "standing"] (defScope sNeedState) := ⟨rfl, rfl, rfl, by decide +kernel, rfl, by decide +kernel, by decide +kernel⟩
abbrev sNeedTwo : Stmt := topS 17
theorem scNeedTwo : FnScope ["web", "standing", "goal"] ["web", "standing", "goal"] (defScope sNeedTwo) := ⟨rfl, rfl, rfl, by decide +kernel, rfl, by decide +kernel, by decide +kernel⟩
abbrev sTallerIn : Stmt := topS 18
theorem scTallerIn : FnScope ["web", "person", "other"] ["web", "person"] (defScope sTallerIn) := ⟨rfl, rfl, rfl, by decide +kernel, rfl, by decide +kernel, by decide +kernel⟩
abbrev sApartIn : Stmt := topS 19
theorem scApartIn : FnScope ["web", "people", "one", "other"] ["web", "people"] (defScope sApartIn) := ⟨rfl, rfl, rfl, by decide +kernel, rfl, by decide +kernel, by decide +kernel⟩
abbrev sChoices : Stmt := topS 20
theorem scChoices : FnScope ["people", "found", "person", "row"] ["people"] (defScope sChoices) := ⟨rfl, rfl, rfl, by decide +kernel, rfl, by decide +kernel, by decide +kernel⟩
abbrev sCallIn : Stmt := topS 22
theorem scCallIn : FnScope ["web", "standing", "person", "other"] ["web", "standing", "person"] (defScope sCallIn) := ⟨rfl, rfl, rfl, by decide +kernel, rfl, by decide +kernel, by decide +kernel⟩
abbrev sMoversIn : Stmt := topS 23
theorem scMoversIn : FnScope ["web", "standing", "person", "other"] ["web", "standing"] (defScope sMoversIn) := ⟨rfl, rfl, rfl, by decide +kernel, rfl, by decide +kernel, by decide +kernel⟩
abbrev sMayCall : Stmt := topS 25
theorem scMayCall : FnScope ["web", "standing", "goal", "found", "person", "other"] ["web", "standing", "goal"] (defScope sMayCall) := ⟨rfl, rfl, rfl, by decide +kernel, rfl, by decide +kernel, by decide +kernel⟩
abbrev sFits : Stmt := topS 26
theorem scFits : FnScope ["web", "standing", "goal", "free", "gone", "person", "other"] ["web", "standing", "goal"] (defScope sFits) := ⟨rfl, rfl, rfl, by decide +kernel, rfl, by decide +kernel, by decide +kernel⟩
abbrev sCanCome : Stmt := topS 27
theorem scCanCome : FnScope ["web", "standing", "goal"] ["web", "standing", "goal"] (defScope sCanCome) := ⟨rfl, rfl, rfl, by decide +kernel, rfl, by decide +kernel, by decide +kernel⟩
abbrev sNeedWay : Stmt := topS 28
theorem scNeedWay : FnScope ["web", "standing", "goal"] ["web", "standing", "goal"] (defScope sNeedWay) := ⟨rfl, rfl, rfl, by decide +kernel, rfl, by decide +kernel, by decide +kernel⟩
abbrev sCallers : Stmt := topS 29
theorem scCallers : FnScope ["web", "standing", "goal"] ["web", "standing", "goal"] (defScope sCallers) := ⟨rfl, rfl, rfl, by decide +kernel, rfl, by decide +kernel, by decide +kernel⟩
abbrev sLeads : Stmt := topS 30
theorem scLeads : FnScope ["web", "standing", "goal", "people", "here", "person"] ["web", "standing", "goal", "people"] (defScope sLeads) := ⟨rfl, rfl, rfl, by decide +kernel, rfl, by decide +kernel, by decide +kernel⟩
abbrev sTellingIn : Stmt := topS 31
theorem scTellingIn : FnScope ["web", "standing", "goal", "row"] ["web", "standing", "goal"] (defScope sTellingIn) := ⟨rfl, rfl, rfl, by decide +kernel, rfl, by decide +kernel, by decide +kernel⟩
abbrev sTelling : Stmt := topS 32
theorem scTelling : FnScope ["web", "standing", "goal"] ["web", "standing", "goal"] (defScope sTelling) := ⟨rfl, rfl, rfl, by decide +kernel, rfl, by decide +kernel, by decide +kernel⟩
abbrev sDistance : Stmt := topS 33
theorem scDistance : FnScope ["web", "standing", "goal", "row"] ["web", "standing", "goal"] (defScope sDistance) := ⟨rfl, rfl, rfl, by decide +kernel, rfl, by decide +kernel, by decide +kernel⟩
abbrev sReachedFrom : Stmt := topS 34
theorem scReachedFrom : FnScope ["web", "standing", "found", "last", "many", "fresh", "here", "person", "there"] ["web", "standing"] (defScope sReachedFrom) := ⟨rfl, rfl, rfl, by decide +kernel, rfl, by decide +kernel, by decide +kernel⟩
abbrev sReached : Stmt := topS 35
theorem scReached : FnScope ["web", "standing"] ["web", "standing"] (defScope sReached) := ⟨rfl, rfl, rfl, by decide +kernel, rfl, by decide +kernel, by decide +kernel⟩
abbrev sEndsIn : Stmt := topS 37
theorem scEndsIn : FnScope ["web", "standing", "row"] ["web", "standing"] (defScope sEndsIn) := ⟨rfl, rfl, rfl, by decide +kernel, rfl, by decide +kernel, by decide +kernel⟩
abbrev sEnds : Stmt := topS 38
theorem scEnds : FnScope ["web", "standing"] ["web", "standing"] (defScope sEnds) := ⟨rfl, rfl, rfl, by decide +kernel, rfl, by decide +kernel, by decide +kernel⟩
abbrev sNeedWeights : Stmt := topS 40
theorem scNeedWeights : FnScope ["web", "weights", "index", "weight"] ["web", "weights"] (defScope sNeedWeights) := ⟨rfl, rfl, rfl, by decide +kernel, rfl, by decide +kernel, by decide +kernel⟩
abbrev sCheapestTelling : Stmt := topS 41
theorem scCheapestTelling : FnScope ["web", "standing", "goal", "weights", "found", "row", "person"] ["web", "standing", "goal", "weights"] (defScope sCheapestTelling) := ⟨rfl, rfl, rfl, by decide +kernel, rfl, by decide +kernel, by decide +kernel⟩
abbrev sWorth : Stmt := topS 42
theorem scWorth : FnScope ["web", "standing", "weights", "person"] ["web", "standing", "weights"] (defScope sWorth) := ⟨rfl, rfl, rfl, by decide +kernel, rfl, by decide +kernel, by decide +kernel⟩
abbrev sCheapestEnd : Stmt := topS 43
theorem scCheapestEnd : FnScope ["web", "standing", "weights", "found", "end", "some", "row", "person"] ["web", "standing", "weights"] (defScope sCheapestEnd) := ⟨rfl, rfl, rfl, by decide +kernel, rfl, by decide +kernel, by decide +kernel⟩
abbrev sTightTelling : Stmt := topS 45
theorem scTightTelling : FnScope ["web", "standing", "goal", "some", "found", "row", "person", "one"] ["web", "standing", "goal"] (defScope sTightTelling) := ⟨rfl, rfl, rfl, by decide +kernel, rfl, by decide +kernel, by decide +kernel⟩
abbrev sMustCall : Stmt := topS 46
theorem scMustCall : FnScope ["web", "standing", "goal", "some", "found", "person", "row"] ["web", "standing", "goal"] (defScope sMustCall) := ⟨rfl, rfl, rfl, by decide +kernel, rfl, by decide +kernel, by decide +kernel⟩
abbrev sTold : Stmt := topS 47
theorem scTold : FnScope ["web", "standing", "people"] ["web", "standing", "people"] (defScope sTold) := ⟨rfl, rfl, rfl, by decide +kernel, rfl, by decide +kernel, by decide +kernel⟩
abbrev sToldIn : Stmt := topS 48
theorem scToldIn : FnScope ["web", "standing", "people", "called", "found", "person", "other"] ["web", "standing", "people"] (defScope sToldIn) := ⟨rfl, rfl, rfl, by decide +kernel, rfl, by decide +kernel, by decide +kernel⟩
abbrev sLawTaken : Stmt := topS 50
theorem scLawTaken : FnScope ["_law_row", "_law_many", "_law_found", "_law_cell"] ["_law_row", "_law_many"] (defScope sLawTaken) := ⟨rfl, rfl, rfl, by decide +kernel, rfl, by decide +kernel, by decide +kernel⟩
abbrev sLawPick : Stmt := topS 51
theorem scLawPick : FnScope ["_law_row", "_law_kinds"] ["_law_row", "_law_kinds"] (defScope sLawPick) := ⟨rfl, rfl, rfl, by decide +kernel, rfl, by decide +kernel, by decide +kernel⟩
abbrev sLawBy : Stmt := topS 52
theorem scLawBy : FnScope ["_law_many", "_law_couples", "_law_found", "_law_one", "_law_other", "_law_person", "_law_own"] ["_law_many", "_law_couples"] (defScope sLawBy) := ⟨rfl, rfl, rfl, by decide +kernel, rfl, by decide +kernel, by decide +kernel⟩
abbrev sLawWeb : Stmt := topS 53
theorem scLawWeb : FnScope ["_law_row", "_law_most", "_law_many", "_law_couples", "_law_rare", "_law_one", "_law_other"] ["_law_row", "_law_most"] (defScope sLawWeb) := ⟨rfl, rfl, rfl, by decide +kernel, rfl, by decide +kernel, by decide +kernel⟩
abbrev sLawUp : Stmt := topS 54
theorem scLawUp : FnScope ["_law_row", "_law_web_here", "_law_rare", "_law_person"] ["_law_row", "_law_web_here"] (defScope sLawUp) := ⟨rfl, rfl, rfl, by decide +kernel, rfl, by decide +kernel, by decide +kernel⟩
abbrev sLaw : Stmt := topS 55
theorem scLaw : FnScope ["_law_script", "_law_row", "_law_web_here", "_law_begin", "_law_prices", "_law_goal", "_law_cost", "_law_people", "_law_must", "_law_free", "_law_some", "_law_person", "_law_heavy", "_law_dear", "_law_other", "_law_both", "_law_price", "_law_end", "_law_one", "_law_last"] ["_law_script"] (defScope sLaw) := ⟨rfl, rfl, rfl, by decide +kernel, rfl, by decide +kernel, by decide +kernel⟩
section
variable {P : Program} {w : World} {K : PySem.W.Frag} {mg : Str → Option Value} {base : Heap}
/-! ### is_integer, is_in, is_list -/
def spInteger : Sp := fun vs H Q _ => ∃ i, vs = [.int i] ∧ Q (.bl true) H
def spIn : Sp := fun vs H Q _ => ∃ a l m, vs = [.int a, .int l, .int m] ∧ Q (.bl (decide (l ≤ a) && decide (a ≤ m))) H
def spIsList : Sp := fun vs H Q _ => ∃ a xs l m, vs = [.ref a, .int l, .int m] ∧ H a = some (.tup xs) ∧ Q (.bl (decide (l ≤ (xs.length : Int)) && decide ((xs.length : Int) ≤ m))) H
theorem k_is_integer (D : Dn K mg "is_integer" sIsInteger ["value"]) (T : Bt mg) : Cal P w K mg base 1 "is_integer" spInteger [] := by
  refine mkCal D scIsInteger (fun vs H Q E h => ?_) (fun f cdv A outer s H vs Q E hr h => ?_)
  · obtain ⟨i, rfl, _⟩ := h
    rfl
  · obtain ⟨i, rfl, q⟩ := h
    refine ⟨_, (pss_one (ps_ret (pe_and (pe_callB (isiK K) (by rfl) T.n_isinstance (by decide +kernel) (pa_cons (pv 0) (pa_cons (pe_bltn (v := .ty "int") (by rfl) T.n_int PyProof.Rows.boot_int rfl) pa_nil))) (pe_one (pe_not (pe_callB (isiK K) (by rfl) T.n_isinstance (by decide +kernel) (pa_cons (pv 0) (pa_cons (pe_bltn (v := .ty "bool") (by rfl) T.n_bool PyProof.Rows.boot_bool rfl) pa_nil)))))))), ?_⟩
    refine ⟨.int i, rfl, .int i, .ty "int", .type "int", .type "int", true, rfl, .ty _, .base (.int i), kit_ty (by decide +kernel), true, rfl, ?_⟩
    refine iteT ⟨.int i, rfl, .int i, .ty "bool", .type "int", .type "bool", false, rfl, .ty _, .base (.int i), kit_ty (by decide +kernel), false, rfl, ?_⟩
    exact q
theorem k_is_in (D : Dn K mg "is_in" sIsIn ["value", "least", "most"]) (T : Bt mg) (c_is_integer : Cal P w K mg base 1 "is_integer" spInteger []) : Cal P w K mg base 2 "is_in" spIn [] := by
  refine mkCal D scIsIn (fun vs H Q E h => ?_) (fun f cdv A outer s H vs Q E hr h => ?_)
  · obtain ⟨a, l, m, rfl, _⟩ := h
    rfl
  · obtain ⟨a, l, m, rfl, q⟩ := h
    refine ⟨_, (pss_one (ps_ret (pe_and (pe_c c_is_integer hr (by decide) (by rfl) (pa_cons (pv 0) pa_nil)) (pe_one (pe_chain op_le op_le (pv 1) (pv 0) (pv 2)))))), ?_⟩
    refine ⟨.int a, rfl, a, rfl, true, rfl, iteT ⟨.int l, rfl, .int a, rfl, l, a, rfl, rfl, decide (l ≤ a), rfl, ?_⟩⟩
    by_cases e : l ≤ a
    · rw [decide_eq_true e] at q ⊢
      refine iteT ⟨.int m, rfl, a, m, rfl, rfl, ?_⟩
      exact q
    · rw [decide_eq_false e] at q ⊢
      exact iteF q
theorem k_is_list (D : Dn K mg "is_list" sIsList ["value", "least", "most"]) (T : Bt mg) : Cal P w K mg base 1 "is_list" spIsList [] := by
  refine mkCal D scIsList (fun vs H Q E h => ?_) (fun f cdv A outer s H vs Q E hr h => ?_)
  · obtain ⟨a, xs, l, m, rfl, _⟩ := h
    rfl
  · obtain ⟨a, xs, l, m, rfl, ha, q⟩ := h
    refine ⟨_, (pss_one (ps_ret (pe_and (pe_callB (isiK K) (by rfl) T.n_isinstance (by decide +kernel) (pa_cons (pv 0) (pa_cons (pe_bltn (v := .ty "tuple") (by rfl) T.n_tuple PyProof.Rows.boot_tuple rfl) pa_nil))) (pe_one (pe_chain op_le op_le (pv 1) (pe_callB (lenK K) (by rfl) T.n_len (by decide +kernel) (pa_cons (pv 0) pa_nil)) (pv 2)))))), ?_⟩
    refine ⟨.ref a, rfl, .ref a, .ty "tuple", .type "tuple", .type "tuple", true, rfl, .ty _, .base (.tup ha), kit_ty (by decide +kernel), true, rfl, iteT ?_⟩
    refine ⟨.int l, rfl, .ref a, rfl, a, xs, rfl, .inr (SqT.of ha), l, _, rfl, rfl, decide (l ≤ (xs.length : Int)), rfl, ?_⟩
    by_cases e : l ≤ (xs.length : Int)
    · rw [decide_eq_true e] at q ⊢
      refine iteT ⟨.int m, rfl, _, m, rfl, rfl, ?_⟩
      exact q
    · rw [decide_eq_false e] at q ⊢
      exact iteF q
end
end K87
set_option Elab.async false
set_option linter.all false
set_option maxRecDepth 100000
set_option maxHeartbeats 4000000
namespace K87
open PySem L2 Evl PyProof.Rows
open C8 (Cal pe_c)
/-! ### more of the layer -/
theorem WebOk.fr_len {w : Wb} (h : WebOk w) (p : Int) : (fr w p).length ≤ 7 := by
  unfold fr
  rw [List.getD_eq_getElem?_getD]
  cases e : w[p.toNat]? with
  | none => exact Nat.zero_le _
  | some r =>
    have hm := List.mem_of_getElem? e
    exact Nat.le_trans (asc_len (h.asc r hm) (h.rng r hm)) h.le
theorem fr_at {w : Wb} {p : Int} (h0 : 0 ≤ p) (h1 : p < (w.length : Int)) : w[p.toNat]? = some (fr w p) := by
  have hl : p.toNat < w.length := by omega
  unfold fr
  rw [List.getD_eq_getElem?_getD, List.getElem?_eq_getElem hl] <;> rfl
section
variable {K : PySem.W.Frag} {σ : L2.St} {H H' : Hp} {ta tb te : TE} {w : Wb} {p : Int}
theorem ev_web (h0 : 0 ≤ p) (h1 : p < (w.length : Int)) (ha : EvD ta σ H fun v H1 => rTup rRow H1 v w) (hb : Ev tb σ H (.int p)) : EvD (tOp (rIxT K) ta tb) σ H fun v H1 => rRow H1 v (fr w p) := by
  have e : ((p.toNat : Nat) : Int) = p := by omega
  exact evd_ixT st_row ha (by rw [e]; exact hb) (fr_at h0 h1)
theorem src_row {M : Addr → Prop} {s : List Int} (m : MOk M H) (ha : EvD te σ H fun v H1 => rRow H1 v s) : Src (iTup K te) σ H M rI s := src_tup st_I m (ha.imp fun _ _ _ h => row_tup h)
theorem src_fr {M : Addr → Prop} (m : MOk M H) (h0 : 0 ≤ p) (h1 : p < (w.length : Int)) (ha : EvD ta σ H fun v H1 => rTup rRow H1 v w) (hb : Ev tb σ H (.int p)) : Src (iTup K (tOp (rIxT K) ta tb)) σ H M rI (fr w p) := src_row m (ev_web h0 h1 ha hb)
/-- sorted(set(t)), t ascending: t's own items -/
theorem evn_sortedSet {wd : World} {s : List Int} (hs : s.Pairwise (· < ·)) (hl : s.length < 64) (ha : EvD ta σ H fun v H1 => rRow H1 v s) : EvN (tCB (rSortedSet wd) (tCons (tCB (rSetTup K wd) (tCons ta tNil)) tNil)) σ H fun v H1 => rLst rI H1 v s := fun H1 e Q q =>
  ha H1 e _ fun x H2 e2 ⟨a, ex, h⟩ => ⟨a, s, by rw [ex], st_of h, by omega, fun b c nb hc => ⟨b, _, c, rfl, upd_same, by omega, fun ns p hns hk hn np => by
    have e3 : ns = s := sorted_ext hns hs fun k => by rw [hk k]; exact decide_eq_true_iff
    subst e3
    exact q p _ (fresh_back e2 (fresh_back (Ex.new nb) np)) ((e2.trans (Ex.new nb)).trans (Ex.new np)) ⟨p, _, rfl, upd_same, pi_ints ns⟩⟩⟩
theorem walk_enumT {a : Addr} {xs : List V} : Walk (IteT K a) xs.length (fun H => SqT K H a xs) (YPair (fun i => some (.int (i : Nat))) (fun i => xs[i]?)) := by
  refine ⟨fun i _ hi q => ⟨xs, xs[i], q, by simp [hi]⟩, fun _ q => ⟨xs, q, Nat.le_refl _⟩, fun i H v H' _ q y => ?_⟩
  obtain ⟨T, x, h1, h2, h3, h4⟩ := y
  exact ⟨T, .int (i : Nat), x, h1, h2, h3, rfl, h4 xs q⟩
/-- for i, x in enumerate(a tuple), nothing changed -/
theorem s_forE {α : Type} {R : Rep α} {ls : List α} {i1 i2 : Nat} {tb : TS} {D : Ends} (s : Stab R) (h : EvD te σ H fun v H1 => rTup R H1 v ls) (Pv : Hp → Nat → L2.St → Hp → Prop) (h0 : ∀ H1, Ex H H1 → Pv H1 0 σ H1) (hk : ∀ H1 i σ' H', Pv H1 i σ' H' → Ex H1 H')
    (ht : ∀ H1 i x l σ' H' H'', Ex H H1 → ls[i]? = some l → Pv H1 i σ' H' → Ex H' H'' → R H'' x l → tb { D with nx := Pv H1 (i + 1), ct := Pv H1 (i + 1), bk := D.nx } ((σ'.set i1 (some (.int (i : Nat)))).set i2 (some x)) H'') (hd : ∀ H1 σ' H', Ex H H1 → Pv H1 ls.length σ' H' → D.nx σ' H') :
    tFor (iEnumT K (tCons te tNil)) (gTup K 2 (gCons (gName i1) (gCons (gName i2) gNil))) tb D σ H := by
  refine h H (Ex.refl H) _ fun v H1 e1 ⟨a, xs, ev, ha, p⟩ => ⟨a, xs, by rw [ev], st_of ha, ?_⟩
  have hl := Paired.length p
  refine for_it walk_enumT (Pv H1) (h0 H1 e1) (fun i σ' H' _ q => ex_t (hk _ _ _ _ q) (st_of ha)) ?_ (by rw [hl]; exact fun σ' H' q => hd H1 σ' H' e1 q)
  rintro i x σ' H' H'' hi q ⟨T, u1, u2, rfl, nT, rfl, h1, h2⟩
  cases h1
  obtain ⟨l, hl1, rl⟩ := Paired.at p h2
  have ex := hk _ _ _ _ q
  have e2 : Ex H' (upd H' T (.tup [.int (i : Nat), u2])) := Ex.new nT
  refine ⟨T, [.int (i : Nat), u2], rfl, st_of upd_same, rfl, .int (i : Nat), [u2], rfl, u2, [], rfl, rfl, ?_⟩
  exact ht H1 i u2 l σ' H' _ e1 hl1 q e2 (s _ _ _ _ (Ex.tx (ex.trans e2)) rl)
end
section
variable {P : Program} {w : World} {K : PySem.W.Frag} {mg : Str → Option Value} {base : Heap}
/-! ### is_set -/
def spIsSet : Sp := fun vs H Q _ => ∃ v u wb s, vs = [v, u] ∧ rTup rRow H v wb ∧ rRow H u s ∧ SetOk wb s ∧ wb.length ≤ 7 ∧ ∀ H2, Ex H H2 → Q (.bl true) H2
theorem len_web {H : Hp} {v : V} {wb : Wb} (h : rTup rRow H v wb) : ∃ a xs, v = .ref a ∧ H a = some (.tup xs) ∧ (xs.length : Int) = (wb.length : Int) := by
  obtain ⟨a, xs, e, ha, p⟩ := h
  exact ⟨a, xs, e, ha, by rw [Paired.length p]⟩
theorem k_is_set (D : Dn K mg "is_set" sIsSet ["web", "people"]) (T : Bt mg) (c_is_list : Cal P w K mg base 1 "is_list" spIsList []) (c_is_in : Cal P w K mg base 2 "is_in" spIn []) : Cal P w K mg base 3 "is_set" spIsSet [] := by
  refine mkCal D scIsSet (fun vs H Q E h => ?_) (fun f cdv A outer s H vs Q E hr h => ?_)
  · obtain ⟨v, u, wb, s, rfl, _⟩ := h
    rfl
  · obtain ⟨v, u, wb, s, rfl, hw, hs, ok, h7, q⟩ := h
    refine ⟨_, (pss_cons (ps_set (i := 2) scIsSet.nd rfl (Or.inr rfl) (pe_callB (lenK K) (by rfl) T.n_len (by decide +kernel) (pa_cons (pv 0) pa_nil)))
  (pss_cons (ps_if (PW.pt (pw_or (pt_not (pt_val (pe_c c_is_list hr (by decide) (by rfl) (pa_cons (pv 1) (pa_cons pe_int (pa_cons (pv 2) pa_nil)))))) (pw_or1 (pt_not (pt_val (pe_callB (allK K rfl) (by rfl) T.n_all (by decide +kernel) (pa_cons (pe_lc (own := [("person", 3)]) rfl scIsSet.nd (pi_tupK K (pv 1)) (blkOk_by (own := [("person", 3)]) (by kernel_rfl)) (fun _ _ _ _ _ => (pg_name (i := 3) scIsSet.nd rfl (by first | exact Or.inl rfl | exact Or.inr rfl))) (fun _ _ _ _ _ => pts_nil) (fun _ _ _ _ _ => (pe_c c_is_in hr (by decide) (by rfl) (pa_cons (pv 3) (pa_cons pe_int (pa_cons (pe_op op_sub (pv 2) pe_int) pa_nil)))))) pa_nil))))))) (pss_one (ps_ret pe_bl)) pss_nil)
  (pss_one (ps_ret (pe_cmpR (eqDK K hr.units) (pe_callTy (listK K) (by rfl) T.n_list (by decide +kernel) (pa_cons (pv 1) pa_nil)) (pe_callB (cr_sortedSet rfl) (by rfl) T.n_sorted (by decide +kernel) (pa_cons (pe_callTy (cr_setTup rfl) (by rfl) T.n_set (by decide +kernel) (pa_cons (pv 1) pa_nil)) pa_nil)) (nomark _)))))), ?_⟩
    obtain ⟨a, xs, rfl, ha, hl⟩ := len_web hw
    have hsl := asc_len ok.asc ok.rng
    refine q_asg (ev_lenT (ev_var rfl) ha) fun H1 e1 => ?_
    rw [hl]
    have hs1 := st_row _ _ _ _ (Ex.tx e1) hs
    obtain ⟨b, rfl, hb⟩ := id hs1
    refine q_never (et_is (et_or (et_not (et_B (ev_call (z := .bl true) (ea_cons (ev_var rfl) (ea_cons ev_c (ea_cons (ev_var rfl) ea_nil))) fun H2 e2 Q2 q2 E2 => ⟨b, s.map V.int, 0, wb.length, rfl, e2 _ _ hb, ?_⟩)))
      (fun _ => et_not (et_B (ev_all (evn_lc0 (g := fun p => decide (0 ≤ p) && decide (p ≤ (wb.length : Int) - 1)) (src_row mok0 (evd_var st_row rfl hs1)) st_B (by omega) (fun _ => rfl) fun H2 x l e2 hm r => ?_).d)))) ?_) fun H2 e2 => ?_
    · rw [List.length_map]
      have e3 : (decide ((0 : Int) ≤ (s.length : Int)) && decide ((s.length : Int) ≤ (wb.length : Int))) = true := by
        rw [Bool.and_eq_true]
        exact ⟨decide_eq_true (by omega), decide_eq_true (by omega)⟩
      rw [e3]
      exact q2 H2 (Ex.refl _)
    · obtain rfl : x = .int l := r
      exact evd_of (ev_call (ea_cons (ev_var rfl) (ea_cons ev_c (ea_cons (ev_op (ev_var rfl) ev_c rv_I0) ea_nil))) fun H3 e3 Q3 q3 E3 => ⟨l, 0, (wb.length : Int) - 1, rfl, q3 H3 (Ex.refl _)⟩) fun _ _ => rfl
    · have e3 : ((s.map fun p => decide (0 ≤ p) && decide (p ≤ (wb.length : Int) - 1)).all id) = true := by
        rw [List.all_eq_true]
        intro x hx
        obtain ⟨y, hy, rfl⟩ := List.mem_map.mp hx
        have := ok.rng y hy
        show (_ && _) = true
        rw [Bool.and_eq_true]
        exact ⟨decide_eq_true (by omega), decide_eq_true (by omega)⟩
      rw [e3] <;> rfl
    · have hs2 := st_row _ _ _ _ (Ex.tx e2) hs1
      refine s_ret (v := .bl true) ?_ fun H3 e3 => q H3 ((e1.trans e2).trans e3)
      refine ev_is (ev_eqL (evn_listT (evd_var st_row rfl hs2)) (evn_sortedSet ok.asc (by omega) (evd_var st_row rfl hs2))) ?_
      rw [decide_eq_true rfl]
end
end K87
set_option Elab.async false
set_option linter.all false
set_option maxRecDepth 100000
set_option maxHeartbeats 4000000
namespace K87
open PySem L2 Evl PyProof.Rows
open C8 (Cal pe_c)
theorem fr_of {w : Wb} {i : Nat} {l : Rw} (h : w[i]? = some l) : fr w (i : Int) = l := by
  unfold fr
  rw [Int.toNat_natCast, List.getD_eq_getElem?_getD, h] <;> rfl
theorem row_short {w : Wb} (ok : WebOk w) {i : Nat} {l : Rw} (h : w[i]? = some l) : (l.length : Int) ≤ (w.length : Int) - 1 := by
  have hi : i < w.length := (List.getElem?_eq_some_iff.mp h).1
  have hm := List.mem_of_getElem? h
  have hn : ((i : Int) :: l).Nodup := List.nodup_cons.mpr ⟨by rw [← fr_of h]; exact ok.irr _, nodup_asc (ok.asc l hm)⟩
  have hs := sum_le_of_subset (f := fun _ => 1) (A := (i : Int) :: l) (B := (List.range w.length).map fun (k : Nat) => (k : Int)) hn (fun x hx => by
    rcases List.mem_cons.mp hx with rfl | hx
    · exact List.mem_map.mpr ⟨i, List.mem_range.mpr hi, rfl⟩
    · have r := ok.rng l hm x hx
      exact List.mem_map.mpr ⟨x.toNat, List.mem_range.mpr (by omega), by omega⟩) (fun _ _ => by omega)
  have e : ∀ m : Rw, (m.map fun _ => (1 : Int)).sum = (m.length : Int) := by
    intro m
    induction m with
    | nil => rfl
    | cons a m ih => simp only [List.map_cons, List.sum_cons, ih, List.length_cons]; omega
  rw [e, e] at hs
  simp at hs
  omega
section
variable {P : Program} {w : World} {K : PySem.W.Frag} {mg : Str → Option Value} {base : Heap}
def spNeedWeb : Sp := fun vs H Q _ => ∃ v wb, vs = [v] ∧ rTup rRow H v wb ∧ WebOk wb ∧ ∀ H2, Ex H H2 → Q .non H2
theorem k_need_web (D : Dn K mg "need_web" sNeedWeb ["web"]) (T : Bt mg) (c_is_list : Cal P w K mg base 1 "is_list" spIsList []) (c_is_in : Cal P w K mg base 2 "is_in" spIn []) : Cal P w K mg base 3 "need_web" spNeedWeb [] := by
  refine mkCal D scNeedWeb (fun vs H Q E h => ?_) (fun f cdv A outer s H vs Q E hr h => ?_)
  · obtain ⟨v, wb, rfl, _⟩ := h
    rfl
  · obtain ⟨v, wb, rfl, hw, ok, q⟩ := h
    refine ⟨_, (pss_cons (ps_if (pt_not (pt_val (pe_c c_is_list hr (by decide) (by rfl) (pa_cons (pv 0) (pa_cons pe_int (pa_cons (pe_glob (v := .int 7) rfl T.most.choose_spec ⟨_, rfl⟩) pa_nil)))))) (pss_one ps_never) pss_nil)
  (pss_cons (ps_set (i := 1) scNeedWeb.nd rfl (Or.inr rfl) (pe_callB (lenK K) (by rfl) T.n_len (by decide +kernel) (pa_cons (pv 0) pa_nil)))
  (pss_cons (ps_for PassesOwn.never rfl (pi_enumT (by rfl) T.n_enumerate (pa_cons (pv 0) pa_nil)) (pg_tup rfl (pgs_cons (pg_name (i := 2) scNeedWeb.nd rfl (by first | exact Or.inl rfl | exact Or.inr rfl)) (pgs_cons (pg_name (i := 3) scNeedWeb.nd rfl (by first | exact Or.inl rfl | exact Or.inr rfl)) pgs_nil)))
  (pss_cons (ps_if (PW.pt (pw_or (pt_not (pt_val (pe_c c_is_list hr (by decide) (by rfl) (pa_cons (pv 3) (pa_cons pe_int (pa_cons (pe_op op_sub (pv 1) pe_int) pa_nil)))))) (pw_or1 (pt_not (pt_val (pe_callB (allK K rfl) (by rfl) T.n_all (by decide +kernel) (pa_cons (pe_lc (own := [("other", 4)]) rfl scNeedWeb.nd (pi_tupK K (pv 3)) (blkOk_by (own := [("other", 4)]) (by kernel_rfl)) (fun _ _ _ _ _ => (pg_name (i := 4) scNeedWeb.nd rfl (by first | exact Or.inl rfl | exact Or.inr rfl))) (fun _ _ _ _ _ => pts_nil) (fun _ _ _ _ _ => (pe_c c_is_in hr (by decide) (by rfl) (pa_cons (pv 4) (pa_cons pe_int (pa_cons (pe_op op_sub (pv 1) pe_int) pa_nil)))))) pa_nil))))))) (pss_one ps_never) pss_nil)
  (pss_one (ps_if (PW.pt (pw_or (pt_cmpR (neDK K hr.units) (pe_callTy (listK K) (by rfl) T.n_list (by decide +kernel) (pa_cons (pv 3) pa_nil)) (pe_callB (cr_sortedSet rfl) (by rfl) T.n_sorted (by decide +kernel) (pa_cons (pe_callTy (cr_setTup rfl) (by rfl) T.n_set (by decide +kernel) (pa_cons (pv 3) pa_nil)) pa_nil)) (nomark _)) (pw_or1 (pt_cmpR (in_seqK K) (pv 2) (pv 3) (by rfl))))) (pss_one ps_never) pss_nil))))
  (pss_one (ps_for PassesOwn.never rfl (pi_enumT (by rfl) T.n_enumerate (pa_cons (pv 0) pa_nil)) (pg_tup rfl (pgs_cons (pg_name (i := 2) scNeedWeb.nd rfl (by first | exact Or.inl rfl | exact Or.inr rfl)) (pgs_cons (pg_name (i := 3) scNeedWeb.nd rfl (by first | exact Or.inl rfl | exact Or.inr rfl)) pgs_nil)))
  (pss_one (ps_if (pt_val (pe_callB (anyK K rfl) (by rfl) T.n_any (by decide +kernel) (pa_cons (pe_lc (own := [("other", 4)]) rfl scNeedWeb.nd (pi_tupK K (pv 3)) (blkOk_by (own := [("other", 4)]) (by kernel_rfl)) (fun _ _ _ _ _ => (pg_name (i := 4) scNeedWeb.nd rfl (by first | exact Or.inl rfl | exact Or.inr rfl))) (fun _ _ _ _ _ => pts_nil) (fun _ _ _ _ _ => (pe_cmpR (notIn_seqK K) (pv 2) (pe_ix (ixTK K) (pv 0) (pv 4) (fun _ _ => rfl)) (by rfl)))) pa_nil))) (pss_one ps_never) pss_nil))))))), ?_⟩
    obtain ⟨a, xs, rfl, ha, hl⟩ := len_web hw
    have h1 := ok.pos
    have h7 := ok.le
    refine q_never (et_is (et_not (et_B (ev_call (z := .bl true) (ea_cons (ev_var rfl) (ea_cons ev_c (ea_cons ev_c ea_nil))) fun H2 e2 Q2 q2 E2 => ⟨a, xs, 1, 7, rfl, e2 _ _ ha, ?_⟩))) rfl) fun H1 e1 => ?_
    · have e3 : (decide ((1 : Int) ≤ (xs.length : Int)) && decide ((xs.length : Int) ≤ 7)) = true := by
        rw [Bool.and_eq_true]
        exact ⟨decide_eq_true (by omega), decide_eq_true (by omega)⟩
      rw [e3]
      exact q2 H2 (Ex.refl _)
    refine q_asg (ev_lenT (ev_var rfl) (e1 _ _ ha)) fun H2 e2 => ?_
    rw [hl]
    have hw2 := st_tup st_row _ _ _ _ (Ex.tx (e1.trans e2)) hw
    refine s_forE (st_row) (evd_var (st_tup st_row) rfl hw2) (fun Hs i σ' H' => Ex Hs H' ∧ ∃ y2 y3, σ' = [some (.ref a), some (.int (wb.length : Int)), y2, y3, none]) (fun Hs e => ⟨Ex.refl _, none, none, rfl⟩) (fun _ _ _ _ h => h.1) ?_ ?_
    · rintro Hs i x l σ' H' H'' es hl1 ⟨ex, y2, y3, rfl⟩ e3 rl
      have hm := List.mem_of_getElem? hl1
      have hsh := row_short ok hl1
      have hl7 : l.length ≤ 7 := by rw [← fr_of hl1]; exact ok.fr_len _
      obtain ⟨b, rfl, hb⟩ := id rl
      refine q_never (et_is (et_or (et_not (et_B (ev_call (z := .bl true) (ea_cons (ev_var rfl) (ea_cons ev_c (ea_cons (ev_op (ev_var rfl) ev_c rv_I0) ea_nil))) fun H4 e4 Q4 q4 E4 => ⟨b, l.map V.int, 0, (wb.length : Int) - 1, rfl, e4 _ _ hb, ?_⟩)))
        (fun _ => et_not (et_B (ev_all (evn_lc0 (g := fun p => decide (0 ≤ p) && decide (p ≤ (wb.length : Int) - 1)) (src_row mok0 (evd_var st_row rfl rl)) st_B (by omega) (fun _ => rfl) fun H4 x l e4 hm4 r => ?_).d)))) ?_) fun H4 e4 => ?_
      · rw [List.length_map]
        have e5 : (decide ((0 : Int) ≤ (l.length : Int)) && decide ((l.length : Int) ≤ (wb.length : Int) - 1)) = true := by
          rw [Bool.and_eq_true]
          exact ⟨decide_eq_true (by omega), decide_eq_true (by omega)⟩
        rw [e5]
        exact q4 H4 (Ex.refl _)
      · obtain rfl : x = .int l := r
        exact evd_of (ev_call (ea_cons (ev_var rfl) (ea_cons ev_c (ea_cons (ev_op (ev_var rfl) ev_c rv_I0) ea_nil))) fun H3 e3 Q3 q3 E3 => ⟨l, 0, (wb.length : Int) - 1, rfl, q3 H3 (Ex.refl _)⟩) fun _ _ => rfl
      · have e5 : ((l.map fun p => decide (0 ≤ p) && decide (p ≤ (wb.length : Int) - 1)).all id) = true := by
          rw [List.all_eq_true]
          intro x hx
          obtain ⟨y, hy, rfl⟩ := List.mem_map.mp hx
          have := ok.rng l hm y hy
          show (_ && _) = true
          rw [Bool.and_eq_true]
          exact ⟨decide_eq_true (by omega), decide_eq_true (by omega)⟩
        rw [e5] <;> rfl
      · have rl4 := st_row _ _ _ _ (Ex.tx e4) rl
        refine s_never (et_is (et_or (et_test (ev_neL (evn_listT (evd_var st_row rfl rl4)).d (evn_sortedSet (ok.asc l hm) (by omega) (evd_var st_row rfl rl4)).d)) (fun _ => et_test (ev_inT (ev_var rfl) (ev_var rfl) (e4 _ _ hb)))) ?_) fun H5 e5 => ⟨((ex.trans e3).trans e4).trans e5, _, _, rfl⟩
        have ni : ¬ (i : Int) ∈ l := by rw [← fr_of hl1]; exact ok.irr _
        rw [decide_eq_true rfl, decide_eq_false ni] <;> rfl
    · rintro Hs σ' H' es ⟨ex, y2, y3, rfl⟩
      have hw3 := st_tup st_row _ _ _ _ (Ex.tx (es.trans ex)) hw2
      refine s_forE (st_row) (evd_var (st_tup st_row) rfl hw3) (fun Hs i σ' H' => Ex Hs H' ∧ ∃ y2 y3, σ' = [some (.ref a), some (.int (wb.length : Int)), y2, y3, none]) (fun Hs e => ⟨Ex.refl _, _, _, rfl⟩) (fun _ _ _ _ h => h.1) ?_ ?_
      · rintro Ht i x l σ2 H4 H5 et hl1 ⟨ex4, z2, z3, rfl⟩ e5 rl
        have hm := List.mem_of_getElem? hl1
        have hl7 : l.length ≤ 7 := by rw [← fr_of hl1]; exact ok.fr_len _
        have hi : i < wb.length := (List.getElem?_eq_some_iff.mp hl1).1
        have hw5 := st_tup st_row _ _ _ _ (Ex.tx ((et.trans ex4).trans e5)) hw3
        refine s_never (et_is (et_B (ev_any (evn_lc0 (g := fun o => !decide ((i : Int) ∈ fr wb o)) (src_row mok0 (evd_var st_row rfl rl)) st_B (by omega) (fun _ => rfl) fun H6 x o e6 hm6 r => ?_).d)) ?_) fun H6 e6 => ⟨((ex4.trans e5).trans e6), _, _, rfl⟩
        · obtain rfl : x = .int o := r
          have ro := ok.rng l hm o hm6
          exact evd_of (ev_niTD (ev_var rfl) (ev_web ro.1 ro.2 (evd_var (st_tup st_row) rfl (st_tup st_row _ _ _ _ (Ex.tx e6) hw5)) (ev_var rfl))) fun _ _ => rfl
        · rw [List.any_eq_false]
          intro x hx
          obtain ⟨o, ho, rfl⟩ := List.mem_map.mp hx
          have : (i : Int) ∈ fr wb o := ok.sym i o (by omega) (by omega) (by rw [fr_of hl1]; exact ho)
          simp [this]
      · rintro Ht σ2 H4 et ⟨ex4, z2, z3, rfl⟩
        exact q H4 ((((e1.trans e2).trans es).trans ex).trans (et.trans ex4))
/-! ### need_people, need_state, need_two -/
def spNeedPeople : Sp := fun vs H Q _ => ∃ v u wb s, vs = [v, u] ∧ rTup rRow H v wb ∧ rRow H u s ∧ SetOk wb s ∧ wb.length ≤ 7 ∧ ∀ H2, Ex H H2 → Q .non H2
theorem k_need_people (D : Dn K mg "need_people" sNeedPeople ["web", "people"]) (c_is_set : Cal P w K mg base 3 "is_set" spIsSet []) : Cal P w K mg base 4 "need_people" spNeedPeople [] := by
  refine mkCal D scNeedPeople (fun vs H Q E h => ?_) (fun f cdv A outer s H vs Q E hr h => ?_)
  · obtain ⟨v, u, wb, s, rfl, _⟩ := h
    rfl
  · obtain ⟨v, u, wb, s, rfl, hw, hs, ok, h7, q⟩ := h
    refine ⟨_, (pss_one (ps_if (pt_not (pt_val (pe_c c_is_set hr (by decide) (by rfl) (pa_cons (pv 0) (pa_cons (pv 1) pa_nil))))) (pss_one ps_never) pss_nil)), ?_⟩
    exact s_never (et_is (et_not (et_B (ev_call (z := .bl true) (ea_cons (ev_var rfl) (ea_cons (ev_var rfl) ea_nil)) fun H2 e2 Q2 q2 E2 => ⟨v, u, wb, s, rfl, st_tup st_row _ _ _ _ (Ex.tx e2) hw, st_row _ _ _ _ (Ex.tx e2) hs, ok, h7, q2⟩))) rfl) q
def spNeedState : Sp := fun vs H Q _ => ∃ v u wb s, vs = [v, u] ∧ rTup rRow H v wb ∧ rRow H u s ∧ WebOk wb ∧ SetOk wb s ∧ ∀ H2, Ex H H2 → Q .non H2
theorem k_need_state (D : Dn K mg "need_state" sNeedState ["web", "standing"]) (c_need_web : Cal P w K mg base 3 "need_web" spNeedWeb []) (c_is_set : Cal P w K mg base 3 "is_set" spIsSet []) : Cal P w K mg base 4 "need_state" spNeedState [] := by
  refine mkCal D scNeedState (fun vs H Q E h => ?_) (fun f cdv A outer s H vs Q E hr h => ?_)
  · obtain ⟨v, u, wb, s, rfl, _⟩ := h
    rfl
  · obtain ⟨v, u, wb, s, rfl, hw, hs, wok, ok, q⟩ := h
    refine ⟨_, (pss_cons (ps_expr (pe_c c_need_web hr (by decide) (by rfl) (pa_cons (pv 0) pa_nil)))
  (pss_one (ps_if (pt_not (pt_val (pe_c c_is_set hr (by decide) (by rfl) (pa_cons (pv 0) (pa_cons (pv 1) pa_nil))))) (pss_one ps_never) pss_nil))), ?_⟩
    refine q_drop (v := .non) (ev_call (ea_cons (ev_var rfl) ea_nil) fun H2 e2 Q2 q2 E2 => ⟨v, wb, rfl, st_tup st_row _ _ _ _ (Ex.tx e2) hw, wok, q2⟩) fun H1 e1 => ?_
    have hw1 := st_tup st_row _ _ _ _ (Ex.tx e1) hw
    have hs1 := st_row _ _ _ _ (Ex.tx e1) hs
    exact s_never (et_is (et_not (et_B (ev_call (z := .bl true) (ea_cons (ev_var rfl) (ea_cons (ev_var rfl) ea_nil)) fun H2 e2 Q2 q2 E2 => ⟨v, u, wb, s, rfl, st_tup st_row _ _ _ _ (Ex.tx e2) hw1, st_row _ _ _ _ (Ex.tx e2) hs1, ok, wok.le, q2⟩))) rfl) fun H2 e2 => q H2 (e1.trans e2)
/-- web, standing, goal -/
structure Args3 (H : Hp) (v u g : V) (wb : Wb) (s go : Rw) : Prop where
  web : rTup rRow H v wb
  st : rRow H u s
  goal : rRow H g go
  wok : WebOk wb
  sok : SetOk wb s
  gok : SetOk wb go
theorem Args3.tx {H H' : Hp} {v u g : V} {wb : Wb} {s go : Rw} (a : Args3 H v u g wb s go) (t : Tx H H') : Args3 H' v u g wb s go := ⟨st_tup st_row _ _ _ _ t a.web, st_row _ _ _ _ t a.st, st_row _ _ _ _ t a.goal, a.wok, a.sok, a.gok⟩
def spNeedTwo : Sp := fun vs H Q _ => ∃ v u g wb s go, vs = [v, u, g] ∧ Args3 H v u g wb s go ∧ ∀ H2, Ex H H2 → Q .non H2
theorem k_need_two (D : Dn K mg "need_two" sNeedTwo ["web", "standing", "goal"]) (c_need_state : Cal P w K mg base 4 "need_state" spNeedState []) (c_is_set : Cal P w K mg base 3 "is_set" spIsSet []) : Cal P w K mg base 5 "need_two" spNeedTwo [] := by
  refine mkCal D scNeedTwo (fun vs H Q E h => ?_) (fun f cdv A outer s H vs Q E hr h => ?_)
  · obtain ⟨v, u, g, wb, s, go, rfl, _⟩ := h
    rfl
  · obtain ⟨v, u, g, wb, s, go, rfl, a, q⟩ := h
    refine ⟨_, (pss_cons (ps_expr (pe_c c_need_state hr (by decide) (by rfl) (pa_cons (pv 0) (pa_cons (pv 1) pa_nil))))
  (pss_one (ps_if (pt_not (pt_val (pe_c c_is_set hr (by decide) (by rfl) (pa_cons (pv 0) (pa_cons (pv 2) pa_nil))))) (pss_one ps_never) pss_nil))), ?_⟩
    refine q_drop (v := .non) (ev_call (ea_cons (ev_var rfl) (ea_cons (ev_var rfl) ea_nil)) fun H2 e2 Q2 q2 E2 => ⟨v, u, wb, s, rfl, (a.tx (Ex.tx e2)).web, (a.tx (Ex.tx e2)).st, a.wok, a.sok, q2⟩) fun H1 e1 => ?_
    have a1 := a.tx (Ex.tx e1)
    exact s_never (et_is (et_not (et_B (ev_call (z := .bl true) (ea_cons (ev_var rfl) (ea_cons (ev_var rfl) ea_nil)) fun H2 e2 Q2 q2 E2 => ⟨v, g, wb, go, rfl, (a1.tx (Ex.tx e2)).web, (a1.tx (Ex.tx e2)).goal, a1.gok, a1.wok.le, q2⟩))) rfl) fun H2 e2 => q H2 (e1.trans e2)
end
end K87
set_option Elab.async false
set_option linter.all false
set_option maxRecDepth 100000
set_option maxHeartbeats 4000000
namespace K87
open PySem L2 Evl PyProof.Rows
open C8 (Cal pe_c)
theorem pa_starK {X : Cx} (K : PySem.W.Frag) {e : Expr} {es : List Expr} {te : TE} {t : TA} {p : Pos} (he : PE X e te) (hr : PA X es t) (h : X.K = K := by rfl) (hs : starEach (.Starred e p :: es) X.env = (true, eval e X.env) :: starEach es X.env := by rfl) : PA X (.Starred e p :: es) (StX.tStar K te t) := by
  subst h
  exact StX.pa_star he hr hs
section
variable {K : PySem.W.Frag} {σ : L2.St} {H H' : Hp} {ta tb te : TE} {α : Type} {R : Rep α} {ls : List α}
/-- [x for x in .. if t] -/
theorem evn_lcF {wi : TI} {j : Nat} {tt : TT} {vs : List Nat} {f : α → Bool} (hs : Src wi σ H M0 R ls) (s : Stab R) (hz : ls.length ≤ 40000) (hw : ∀ x, wipe ((wipe σ vs).set j (some x)) vs = wipe σ vs) (hv : ∀ x, ((wipe σ vs).set j (some x))[j]? = some (some x))
    (ht : ∀ H1 x l, Ex H H1 → l ∈ ls → R H1 x l → EvT tt ((wipe σ vs).set j (some x)) H1 (f l)) :
    EvN (tLc wi (gName j) tt (tVar j) vs) σ H fun v H1 => rLst R H1 v (ls.filter f) := by
  have := evn_lc (te := tVar j) (f := f) (g := id) hs s hz hw ht (fun H1 x l e hm r _ => evd_of (ev_var (hv x)) fun H2 e2 => s _ _ _ _ (Ex.tx e2) r)
  rw [List.map_id] at this
  exact this
theorem ev_lt {i j : Int} (ha : Ev ta σ H (.int i)) (hb : Ev tb σ H (.int j)) : Ev (tOp (rI0 fun i j => .bl (decide (i < j))) ta tb) σ H (.bl (decide (i < j))) := ev_op ha hb rv_I0
theorem ev_gt {i j : Int} (ha : Ev ta σ H (.int i)) (hb : Ev tb σ H (.int j)) : Ev (tOp (rI0 fun i j => .bl (decide (j < i))) ta tb) σ H (.bl (decide (j < i))) := ev_op ha hb rv_I0
theorem ev_ge {i j : Int} (ha : Ev ta σ H (.int i)) (hb : Ev tb σ H (.int j)) : Ev (tOp (rI0 fun i j => .bl (decide (j ≤ i))) ta tb) σ H (.bl (decide (j ≤ i))) := ev_op ha hb rv_I0
end
theorem any_id {α : Type} (l : List α) (f : α → Bool) : ((l.map f).any id) = l.any f := by rw [List.any_map] <;> rfl
theorem all_id {α : Type} (l : List α) (f : α → Bool) : ((l.map f).all id) = l.all f := by rw [List.all_map] <;> rfl
section
variable {P : Program} {w : World} {K : PySem.W.Frag} {mg : Str → Option Value} {base : Heap}
/-! ### taller_in -/
def spTaller : Sp := fun vs H Q _ => ∃ v p wb, vs = [v, .int p] ∧ rTup rRow H v wb ∧ WebOk wb ∧ 0 ≤ p ∧ p < (wb.length : Int) ∧ ∀ q H2, H q = none → Ex H H2 → rRow H2 (.ref q) (tallerIn wb p) → Q (.ref q) H2
theorem k_taller_in (D : Dn K mg "taller_in" sTallerIn ["web", "person"]) (T : Bt mg) : Cal P w K mg base 1 "taller_in" spTaller [] := by
  refine mkCal D scTallerIn (fun vs H Q E h => ?_) (fun f cdv A outer s H vs Q E hr h => ?_)
  · obtain ⟨v, p, wb, rfl, _⟩ := h
    rfl
  · obtain ⟨v, p, wb, rfl, hw, ok, h0, h1, q⟩ := h
    refine ⟨_, (pss_one (ps_ret (pe_callTy (tupleK K) (by rfl) T.n_tuple (by decide +kernel) (pa_cons (pe_lc (own := [("other", 2)]) rfl scTallerIn.nd (pi_tupK K (pe_ix (ixTK K) (pv 0) (pv 1) (fun _ _ => rfl))) (blkOk_by (own := [("other", 2)]) (by kernel_rfl)) (fun _ _ _ _ _ => (pg_name (i := 2) scTallerIn.nd rfl (by first | exact Or.inl rfl | exact Or.inr rfl))) (fun _ _ _ _ _ => (pts_one (pt_cmpR op_gt (pv 2) (pv 1) (nomark _)))) (fun _ _ _ _ _ => (pv 2))) pa_nil)))), ?_⟩
    refine s_retN (evn_tupleI (evn_lcF (f := fun o => decide (p < o)) (src_fr mok0 h0 h1 (evd_var (st_tup st_row) rfl hw) (ev_var rfl)) st_I (by have := ok.fr_len p; omega) (fun _ => rfl) (fun _ => rfl) fun H2 x o e2 hm r => ?_).d) fun p H2 np e2 hp => q p H2 np e2 hp
    obtain rfl : x = .int o := r
    exact et_test (ev_gt (ev_var rfl) (ev_var rfl))
/-! ### choices -/
def spChoices : Sp := fun vs H Q _ => ∃ u l, vs = [u] ∧ rRow H u l ∧ l.length ≤ 7 ∧ ∀ q H2, H q = none → Ex H H2 → rLst rRow H2 (.ref q) (choices l) → Q (.ref q) H2
theorem choices_small {l : Rw} (h : l.length ≤ 7) : (choices l).length ≤ 128 := by
  rw [choices_len]
  exact Nat.le_trans (Nat.pow_le_pow_right (by decide) h) (by decide)
theorem k_choices (D : Dn K mg "choices" sChoices ["people"]) (T : Bt mg) : Cal P w K mg base 1 "choices" spChoices [] := by
  refine mkCal D scChoices (fun vs H Q E h => ?_) (fun f cdv A outer s H vs Q E hr h => ?_)
  · obtain ⟨u, l, rfl, _⟩ := h
    rfl
  · obtain ⟨u, l, rfl, hu, h7, q⟩ := h
    refine ⟨_, (pss_cons (ps_set (i := 1) scChoices.nd rfl (Or.inl rfl) (pe_lst (pa_cons (pe_tup pa_nil) pa_nil)))
  (pss_cons (ps_for PassesOwn.never rfl (pi_tupK K (pv 0)) (pg_name (i := 2) scChoices.nd rfl (by first | exact Or.inl rfl | exact Or.inr rfl))
  (pss_one (ps_expr (pe_bm PySem.F.plainAttrs_list PySem.F.slot_list_extend PySem.F.type_list_extend mt_extend (pv 1) (pa_cons (pe_lc (own := [("row", 3)]) rfl scChoices.nd (pi_listK K (pv 1)) (blkOk_by (own := [("row", 3)]) (by kernel_rfl)) (fun _ _ _ _ _ => (pg_name (i := 3) scChoices.nd rfl (by first | exact Or.inl rfl | exact Or.inr rfl))) (fun _ _ _ _ _ => pts_nil) (fun _ _ _ _ _ => (pe_tup (pa_starK K (pv 3) (pa_cons (pv 2) pa_nil))))) pa_nil)))))
  (pss_one (ps_ret (pv 1))))), ?_⟩
    refine ⟨by show 0 ≤ sizeLine; exact Nat.zero_le _, fun t nt => ⟨by show 1 ≤ sizeLine; decide, fun p np => ?_⟩⟩
    have hH : H p = none := fresh_back (Ex.new nt) np
    have e1 : Ex H (upd (upd H t (.tup [])) p (.lst [.ref t])) := (Ex.new nt).trans (Ex.new np)
    have hpt : (upd (upd H t (.tup [])) p (.lst [.ref t])) p = some (.lst [.ref t]) := upd_same
    have htt : (upd (upd H t (.tup [])) p (.lst [.ref t])) t = some (.tup []) := by
      rw [upd_ne (ne_of_none (upd_same (H := H) (a := t) (o := .tup [])) np)]
      exact upd_same
    generalize upd (upd H t (.tup [])) p (.lst [.ref t]) = H1 at e1 hpt htt
    have mk : MOk (fun b => b = p) H1 := fun b hb => by
      rw [show b = p from hb]
      exact ⟨_, hpt, fun _ z => by cases z⟩
    refine s_for (M := fun b => b = p) (src_row mk (evd_var st_row rfl (st_row _ _ _ _ (Ex.tx e1) hu))) (fun Hs i σ' H' => ∃ y, σ' = [some u, some (.ref p), y, none] ∧ Kp (fun b => b = p) Hs H' ∧ ∃ ys, H' p = some (.lst ys) ∧ Paired (rRow H') ys (choices (l.take i)))
      (fun Hs es => ⟨none, rfl, Kp.refl _, [.ref t], es _ _ hpt, .cons ⟨t, rfl, es _ _ htt⟩ .nil⟩) (fun Hs i σ' H' h => by obtain ⟨_, _, k, _⟩ := h; exact k) ?_ ?_
    · rintro Hs i x n σ' H' es hl rl ⟨y, rfl, kp, ys, hy, py⟩
      obtain rfl : x = .int n := rl
      have hi : i < l.length := (List.getElem?_eq_some_iff.mp hl).1
      have hn : l[i] = n := by rw [List.getElem?_eq_getElem hi] at hl; exact Option.some.inj hl
      have hls : (choices (l.take i)).length ≤ 128 := choices_small (by rw [List.length_take]; omega)
      have hyl := Paired.length py
      refine ⟨.ref p, rfl, .inl ⟨rfl, ys, sq_of hy⟩, ?_⟩
      refine evn_lc0 (g := fun r => r ++ [n]) (src_lstK st_row mok0 (ev_var rfl) hy (fun z => z) py) st_row (by omega) (fun _ => rfl) (fun H2 x r e2 hm rr => ?_) H' (Ex.refl _) _ fun D H2 nD e2 ⟨D', zs, eD, hz, pz⟩ => ?_
      · obtain ⟨a, rfl, ha⟩ := rr
        intro H3 e3 Q3 q3
        refine ⟨.ref a, rfl, a, r.map V.int, rfl, .inl (st_of (e3 _ _ ha)), .int n, rfl, ?_, fun b nb => q3 _ _ (Ex.new nb) ⟨b, rfl, ?_⟩⟩
        · rw [List.length_append, List.length_map]
          have : r.length ≤ 7 := by
            have := ((mem_choices _ _).mp hm).length_le
            rw [List.length_take] at this
            omega
          exact sz_of (by simp; omega)
        · rw [upd_same, List.map_append] <;> rfl
      · have eD' : D = D' := V.ref.inj eD
        subst eD'
        have hzl := Paired.length pz
        rw [List.length_map] at hzl
        refine ⟨p, D, ys, zs, rfl, rfl, e2 _ _ hy, hz, sz_of (by omega), ?_⟩
        refine ⟨some (.int n), rfl, (kp.trans (Kp.of_ex e2)).mut rfl, ys ++ zs, upd_same, ?_⟩
        have tx : Tx H2 (upd H2 p (.lst (ys ++ zs))) := (Ex.tx (Ex.refl H2)).mut (e2 _ _ hy) (fun _ z => by cases z)
        rw [choices_step l i hi, hn]
        exact Paired.app' (Paired.st st_row ((Ex.tx e2).trans tx) py) (Paired.st st_row tx pz)
    · rintro Hs σ' H' es ⟨y, rfl, kp, ys, hy, py⟩
      rw [List.take_length] at py
      refine ⟨.ref p, rfl, q p H' hH (fun b o hb => kp b o (fun z => by rw [z, hH] at hb; cases hb) (es b o (e1 b o hb))) ⟨p, ys, rfl, hy, py⟩⟩
/-! ### call_in, movers_in -/
def spCall : Sp := fun vs H Q _ => ∃ v u p wb s, vs = [v, u, .int p] ∧ rTup rRow H v wb ∧ rRow H u s ∧ WebOk wb ∧ SetOk wb s ∧ ∀ x H2, Ex H H2 → rRow H2 x (callIn wb s p) → Q x H2
theorem set_len {wb : Wb} {s : Rw} (wok : WebOk wb) (ok : SetOk wb s) : s.length ≤ 7 := Nat.le_trans ok.len wok.le
theorem k_call_in (D : Dn K mg "call_in" sCallIn ["web", "standing", "person"]) (T : Bt mg) : Cal P w K mg base 1 "call_in" spCall [] := by
  refine mkCal D scCallIn (fun vs H Q E h => ?_) (fun f cdv A outer s H vs Q E hr h => ?_)
  · obtain ⟨v, u, p, wb, s, rfl, _⟩ := h
    rfl
  · obtain ⟨v, u, p, wb, s, rfl, hw, hs, wok, ok, q⟩ := h
    refine ⟨_, (pss_cons (ps_if (pt_cmpR (notIn_seqK K) (pv 2) (pv 1) (by rfl)) (pss_one (ps_ret (pv 1))) pss_nil)
  (pss_one (ps_ret (pe_callTy (tupleK K) (by rfl) T.n_tuple (by decide +kernel) (pa_cons (pe_lc (own := [("other", 3)]) rfl scCallIn.nd (pi_tupK K (pv 1)) (blkOk_by (own := [("other", 3)]) (by kernel_rfl)) (fun _ _ _ _ _ => (pg_name (i := 3) scCallIn.nd rfl (by first | exact Or.inl rfl | exact Or.inr rfl))) (fun _ _ _ _ _ => (pts_one (PW.pt (pw_or (pt_cmpR op_ge (pv 3) (pv 2) (nomark _)) (pw_or1 (pt_cmpR (notIn_seqK K) (pv 3) (pe_ix (ixTK K) (pv 0) (pv 2) (fun _ _ => rfl)) (by rfl))))))) (fun _ _ _ _ _ => (pv 3))) pa_nil))))), ?_⟩
    have hl := set_len wok ok
    obtain ⟨b, rfl, hb⟩ := id hs
    refine q_when (et_test (ev_niT (ev_var rfl) (ev_var rfl) hb)) (fun hn H1 e1 => ?_) (fun hn H1 e1 => ?_)
    · have hn' : p ∉ s := by simpa using hn
      have e : callIn wb s p = s := by unfold callIn; rw [if_neg hn']
      rw [e] at q
      exact s_ret (ev_var rfl) fun H2 e2 => q _ H2 (e1.trans e2) (st_row _ _ _ _ (Ex.tx (e1.trans e2)) hs)
    · have hp : p ∈ s := by simpa using hn
      have r := ok.rng p hp
      have e : callIn wb s p = s.filter fun o => decide (p ≤ o) || !decide (o ∈ fr wb p) := by unfold callIn; rw [if_pos hp]
      rw [e] at q
      have hw1 := st_tup st_row _ _ _ _ (Ex.tx e1) hw
      refine s_retN (evn_tupleI (evn_lcF (f := fun o => decide (p ≤ o) || !decide (o ∈ fr wb p)) (src_row mok0 (evd_var st_row rfl (st_row _ _ _ _ (Ex.tx e1) hs))) st_I (by omega) (fun _ => rfl) (fun _ => rfl) fun H2 x o e2 hm r2 => ?_).d) fun p2 H2 np e2 hp2 => q _ H2 (e1.trans e2) hp2
      obtain rfl : x = .int o := r2
      exact et_or (et_test (ev_ge (ev_var rfl) (ev_var rfl))) fun _ => et_test (ev_niTD (ev_var rfl) (ev_web r.1 r.2 (evd_var (st_tup st_row) rfl (st_tup st_row _ _ _ _ (Ex.tx e2) hw1)) (ev_var rfl)))
def spMovers : Sp := fun vs H Q _ => ∃ v u wb s, vs = [v, u] ∧ rTup rRow H v wb ∧ rRow H u s ∧ WebOk wb ∧ SetOk wb s ∧ ∀ q H2, H q = none → Ex H H2 → rLst rI H2 (.ref q) (moversIn wb s) → Q (.ref q) H2
theorem k_movers_in (D : Dn K mg "movers_in" sMoversIn ["web", "standing"]) (T : Bt mg) : Cal P w K mg base 1 "movers_in" spMovers [] := by
  refine mkCal D scMoversIn (fun vs H Q E h => ?_) (fun f cdv A outer s H vs Q E hr h => ?_)
  · obtain ⟨v, u, wb, s, rfl, _⟩ := h
    rfl
  · obtain ⟨v, u, wb, s, rfl, hw, hs, wok, ok, q⟩ := h
    refine ⟨_, (pss_one (ps_ret (pe_lc (own := [("person", 2)]) rfl scMoversIn.nd (pi_tupK K (pv 1)) (blkOk_by (own := [("person", 2)]) (by kernel_rfl)) (fun _ _ _ _ _ => (pg_name (i := 2) scMoversIn.nd rfl (by first | exact Or.inl rfl | exact Or.inr rfl))) (fun _ _ _ _ _ => (pts_one (pt_val (pe_callB (anyK K rfl) (by rfl) T.n_any (by decide +kernel) (pa_cons (pe_lc (own := [("other", 3)]) rfl scMoversIn.nd (pi_tupK K (pe_ix (ixTK K) (pv 0) (pv 2) (fun _ _ => rfl))) (blkOk_by (own := [("other", 3)]) (by kernel_rfl)) (fun _ _ _ _ _ => (pg_name (i := 3) scMoversIn.nd rfl (by first | exact Or.inl rfl | exact Or.inr rfl))) (fun _ _ _ _ _ => pts_nil) (fun _ _ _ _ _ => (pe_and (pe_cmpR op_lt (pv 3) (pv 2) (nomark _)) (pe_one (pe_cmpR (in_seqK K) (pv 3) (pv 1) (by rfl)))))) pa_nil))))) (fun _ _ _ _ _ => (pv 2))))), ?_⟩
    have hl := set_len wok ok
    refine s_retN (evn_lcF (f := mover wb s) (src_row mok0 (evd_var st_row rfl hs)) st_I (by omega) (fun _ => rfl) (fun _ => rfl) fun H2 x p e2 hm r2 => ?_) fun p2 H2 np e2 hp2 => q _ H2 np e2 hp2
    obtain rfl : x = .int p := r2
    have r := ok.rng p hm
    have hw2 := st_tup st_row _ _ _ _ (Ex.tx e2) hw
    have hs2 := st_row _ _ _ _ (Ex.tx e2) hs
    refine et_is (et_B (ev_any (evn_lc0 (g := fun o => decide (o < p) && decide (o ∈ s)) (src_fr mok0 r.1 r.2 (evd_var (st_tup st_row) rfl hw2) (ev_var rfl)) st_B (by have := wok.fr_len p; omega) (fun _ => rfl) fun H3 x o e3 hm3 r3 => ?_).d)) (any_id _ _)
    obtain rfl : x = .int o := r3
    exact evd_of (ev_and2 (ev_lt (ev_var rfl) (ev_var rfl)) (ev_inTD (ev_var rfl) (evd_var st_row rfl (st_row _ _ _ _ (Ex.tx e3) hs2)))) fun _ _ => rfl
/-! ### may_call -/
def spMay : Sp := fun vs H Q _ => ∃ v u g wb s go, vs = [v, u, g] ∧ Args3 H v u g wb s go ∧ ∀ q H2, H q = none → Ex H H2 → rRow H2 (.ref q) (mayCall wb s go) → Q (.ref q) H2
theorem mok_new {H : Hp} {p : Addr} {xs : List V} (h : H p = some (.lst xs)) : MOk (fun b => b = p) H := fun b hb => by
  rw [show b = p from hb]
  exact ⟨_, h, fun _ z => by cases z⟩
theorem ex_of_kp {H H1 H' : Hp} {p : Addr} (hp : H p = none) (e : Ex H H1) (k : Kp (fun b => b = p) H1 H') : Ex H H' := fun b o hb => k b o (fun z => by rw [z, hp] at hb; cases hb) (e b o hb)
theorem k_may_call (D : Dn K mg "may_call" sMayCall ["web", "standing", "goal"]) (T : Bt mg) : Cal P w K mg base 1 "may_call" spMay [] := by
  refine mkCal D scMayCall (fun vs H Q E h => ?_) (fun f cdv A outer s H vs Q E hr h => ?_)
  · obtain ⟨v, u, g, wb, s, go, rfl, _⟩ := h
    rfl
  · obtain ⟨v, u, g, wb, s, go, rfl, a, q⟩ := h
    refine ⟨_, (pss_cons (ps_set (i := 3) scMayCall.nd rfl (Or.inl rfl) (pe_lst pa_nil))
  (pss_cons (ps_for PassesOwn.never rfl (pi_tupK K (pv 1)) (pg_name (i := 4) scMayCall.nd rfl (by first | exact Or.inl rfl | exact Or.inr rfl))
  (pss_one (ps_if (pt_not (pt_val (pe_callB (anyK K rfl) (by rfl) T.n_any (by decide +kernel) (pa_cons (pe_lc (own := [("other", 5)]) rfl scMayCall.nd (pi_tupK K (pe_ix (ixTK K) (pv 0) (pv 4) (fun _ _ => rfl))) (blkOk_by (own := [("other", 5)]) (by kernel_rfl)) (fun _ _ _ _ _ => (pg_name (i := 5) scMayCall.nd rfl (by first | exact Or.inl rfl | exact Or.inr rfl))) (fun _ _ _ _ _ => pts_nil) (fun _ _ _ _ _ => (pe_and (pe_cmpR op_lt (pv 5) (pv 4) (nomark _)) (pe_one (pe_cmpR (in_seqK K) (pv 5) (pv 2) (by rfl)))))) pa_nil)))) (pss_one (ps_expr (pe_bm PySem.F.plainAttrs_list PySem.F.slot_list_append PySem.F.type_list_append mt_append (pv 3) (pa_cons (pv 4) pa_nil)))) pss_nil)))
  (pss_one (ps_ret (pe_callTy (tupleK K) (by rfl) T.n_tuple (by decide +kernel) (pa_cons (pv 3) pa_nil)))))), ?_⟩
    have hl := set_len a.wok a.sok
    refine q_newL fun p np => ?_
    have e1 : Ex H (upd H p (.lst [])) := Ex.new np
    have hp1 : (upd H p (.lst [])) p = some (.lst []) := upd_same
    generalize upd H p (.lst []) = H1 at e1 hp1
    have a1 := a.tx (Ex.tx e1)
    refine s_acc (f := mayB wb go) (g := id) (src_row (mok_new hp1) (evd_var st_row rfl a1.st)) st_I (by omega) hp1 (fun _ => rfl) (fun H2 x l k hm r => ?_) (fun H2 x l k hm r _ => ?_) (fun y H2 k ⟨ys, hy, py⟩ σ' hσ => ?_)
    · obtain rfl : x = .int l := r
      have a2 := a1.tx (k.tx (mok_new hp1))
      have rl := a.sok.rng l hm
      refine et_is (et_not (et_B (ev_any (evn_lc0 (g := fun o => decide (o < l) && decide (o ∈ go)) (src_fr mok0 rl.1 rl.2 (evd_var (st_tup st_row) rfl a2.web) (ev_var rfl)) st_B (by have := a.wok.fr_len l; omega) (fun _ => rfl) fun H3 x o e3 hm3 r3 => ?_).d))) ?_
      · obtain rfl : x = .int o := r3
        exact evd_of (ev_and2 (ev_lt (ev_var rfl) (ev_var rfl)) (ev_inTD (ev_var rfl) (evd_var st_row rfl (a2.tx (Ex.tx e3)).goal))) fun _ _ => rfl
      · rw [any_id] <;> rfl
    · obtain rfl : x = .int l := r
      exact evd_of (ev_var rfl) fun _ _ => rfl
    · rw [List.map_id] at py
      have hv : σ'[3]? = some (some (.ref p)) := by rcases hσ with rfl | rfl <;> rfl
      refine s_retN (evn_tupleI (l := mayCall wb s go) (evd_of (ev_var hv) fun H3 e3 => ⟨p, ys, rfl, e3 _ _ hy, Paired.st st_I (Ex.tx e3) py⟩)) fun r H3 nr e3 hr3 => ?_
      have ex := ex_of_kp np e1 k
      exact q r H3 (fresh_back ex nr) (ex.trans e3) hr3
/-! ### fits -/
def spFits : Sp := fun vs H Q _ => ∃ v u g wb s go, vs = [v, u, g] ∧ Args3 H v u g wb s go ∧ ∀ H2, Ex H H2 → Q (.bl (fits wb s go)) H2
theorem k_fits (D : Dn K mg "fits" sFits ["web", "standing", "goal"]) (T : Bt mg) (c_may_call : Cal P w K mg base 1 "may_call" spMay []) (c_taller_in : Cal P w K mg base 1 "taller_in" spTaller []) : Cal P w K mg base 2 "fits" spFits [] := by
  refine mkCal D scFits (fun vs H Q E h => ?_) (fun f cdv A outer s H vs Q E hr h => ?_)
  · obtain ⟨v, u, g, wb, s, go, rfl, _⟩ := h
    rfl
  · obtain ⟨v, u, g, wb, s, go, rfl, a, q⟩ := h
    refine ⟨_, (pss_cons (ps_if (pt_not (pt_val (pe_callB (allK K rfl) (by rfl) T.n_all (by decide +kernel) (pa_cons (pe_lc (own := [("person", 5)]) rfl scFits.nd (pi_tupK K (pv 2)) (blkOk_by (own := [("person", 5)]) (by kernel_rfl)) (fun _ _ _ _ _ => (pg_name (i := 5) scFits.nd rfl (by first | exact Or.inl rfl | exact Or.inr rfl))) (fun _ _ _ _ _ => pts_nil) (fun _ _ _ _ _ => (pe_cmpR (in_seqK K) (pv 5) (pv 1) (by rfl)))) pa_nil)))) (pss_one (ps_ret pe_bl)) pss_nil)
  (pss_cons (ps_set (i := 3) scFits.nd rfl (Or.inr rfl) (pe_c c_may_call hr (by decide) (by rfl) (pa_cons (pv 0) (pa_cons (pv 1) (pa_cons (pv 2) pa_nil)))))
  (pss_cons (ps_setLc (i := 4) (own := [("person", 5)]) rfl scFits.nd rfl rfl (sw_true rfl rfl rfl (by decide +kernel)) (pi_tupK K (pv 1)) (blkOk_by (own := [("person", 5)]) (by kernel_rfl)) (fun _ _ _ _ _ => (pg_name (i := 5) scFits.nd rfl (by first | exact Or.inl rfl | exact Or.inr rfl))) (fun _ _ _ _ _ => (pts_one (pt_cmpR (notIn_seqK K) (pv 5) (pv 2) (by rfl)))) (fun _ _ _ _ _ => (pv 5)))
  (pss_one (ps_ret (pe_callB (allK K rfl) (by rfl) T.n_all (by decide +kernel) (pa_cons (pe_lc (own := [("person", 5)]) rfl scFits.nd (pi_listK K (pv 4)) (blkOk_by (own := [("person", 5)]) (by kernel_rfl)) (fun _ _ _ _ _ => (pg_name (i := 5) scFits.nd rfl (by first | exact Or.inl rfl | exact Or.inr rfl))) (fun _ _ _ _ _ => pts_nil) (fun _ _ _ _ _ => (pe_callB (anyK K rfl) (by rfl) T.n_any (by decide +kernel) (pa_cons (pe_lc (own := [("other", 6)]) rfl scFits.nd (pi_tupK K (pe_c c_taller_in hr (by decide) (by rfl) (pa_cons (pv 0) (pa_cons (pv 5) pa_nil)))) (blkOk_by (own := [("other", 6)]) (by kernel_rfl)) (fun _ _ _ _ _ => (pg_name (i := 6) scFits.nd rfl (by first | exact Or.inl rfl | exact Or.inr rfl))) (fun _ _ _ _ _ => pts_nil) (fun _ _ _ _ _ => (pe_cmpR (in_seqK K) (pv 6) (pv 3) (by rfl)))) pa_nil)))) pa_nil))))))), ?_⟩
    have hl := set_len a.wok a.sok
    have hg := set_len a.wok a.gok
    refine q_when (b := !go.all fun p => decide (p ∈ s)) (et_is (et_not (et_B (ev_all (evn_lc0 (g := fun p => decide (p ∈ s)) (src_row mok0 (evd_var st_row rfl a.goal)) st_B (by omega) (fun _ => rfl) fun H1 x p e1 hm r => ?_).d))) (by rw [all_id])) (fun hb H1 e1 => ?_) (fun hb H1 e1 => ?_)
    · obtain rfl : x = .int p := r
      exact evd_of (ev_inTD (ev_var rfl) (evd_var st_row rfl (a.tx (Ex.tx e1)).st)) fun _ _ => rfl
    · have hf : fits wb s go = false := by
        unfold fits
        rw [show (go.all fun p => decide (p ∈ s)) = false by simpa using hb, Bool.false_and]
      rw [hf] at q
      exact s_ret ev_c fun H2 e2 => q H2 (e1.trans e2)
    · have hf : fits wb s go = (s.filter fun p => !decide (p ∈ go)).all fun p => (tallerIn wb p).any fun o => decide (o ∈ mayCall wb s go) := by
        unfold fits
        rw [show (go.all fun p => decide (p ∈ s)) = true by simpa using hb, Bool.true_and]
      rw [hf] at q
      have a1 := a.tx (Ex.tx e1)
      refine q_asgN (evn_call (P := fun x H2 => rRow H2 x (mayCall wb s go)) (ea_cons (ev_var rfl) (ea_cons (ev_var rfl) (ea_cons (ev_var rfl) ea_nil))) fun H2 e2 Q2 q2 => ⟨v, u, g, wb, s, go, rfl, a1.tx (Ex.tx e2), q2⟩) fun fa H2 nf e2 hfa => ?_
      have a2 := a1.tx (Ex.tx e2)
      refine q_asgN (evn_lcF (f := fun p => !decide (p ∈ go)) (src_row mok0 (evd_var st_row rfl a2.st)) st_I (by omega) (fun _ => rfl) (fun _ => rfl) fun H3 x p e3 hm r => ?_) fun ga H3 ng e3 ⟨ga', gs, eg, hgs, pgs⟩ => ?_
      · obtain rfl : x = .int p := r
        exact et_test (ev_niTD (ev_var rfl) (evd_var st_row rfl (a2.tx (Ex.tx e3)).goal))
      · have eg' : ga = ga' := V.ref.inj eg
        subst eg'
        have a3 := a2.tx (Ex.tx e3)
        have hfa3 := st_row _ _ _ _ (Ex.tx e3) hfa
        refine s_ret (v := .bl ((s.filter fun p => !decide (p ∈ go)).all fun p => (tallerIn wb p).any fun o => decide (o ∈ mayCall wb s go))) (ev_is (ev_all (evn_lc0 (g := fun p => (tallerIn wb p).any fun o => decide (o ∈ mayCall wb s go)) (src_lstK st_I mok0 (ev_var rfl) hgs (fun z => z) pgs) st_B ?_ (fun _ => rfl) fun H4 x p e4 hm r => ?_).d) (by rw [all_id])) fun H4 e4 => q H4 (((e1.trans e2).trans e3).trans e4)
        · have := List.length_filter_le (fun p => !decide (p ∈ go)) s
          omega
        · obtain rfl : x = .int p := r
          have rp := a.sok.rng p (List.mem_filter.mp hm).1
          have hw4 := (a3.tx (Ex.tx e4)).web
          have hfa4 := st_row _ _ _ _ (Ex.tx e4) hfa3
          refine evd_of (ev_is (ev_any (evn_lc0 (g := fun o => decide (o ∈ mayCall wb s go)) (src_row mok0 (evn_call (P := fun x H2 => rRow H2 x (tallerIn wb p)) (ea_cons (ev_var rfl) (ea_cons (ev_var rfl) ea_nil)) fun H5 e5 Q5 q5 => ⟨v, p, wb, rfl, st_tup st_row _ _ _ _ (Ex.tx e5) hw4, a.wok, rp.1, rp.2, q5⟩).d) st_B ?_ (fun _ => rfl) fun H6 x o e6 hm6 r6 => ?_).d) (by rw [any_id])) fun _ _ => rfl
          · have := List.length_filter_le (fun o => decide (p < o)) (fr wb p)
            have := a.wok.fr_len p
            show (tallerIn wb p).length ≤ 40000
            unfold tallerIn
            omega
          · obtain rfl : x = .int o := r6
            exact evd_of (ev_inTD (ev_var rfl) (evd_var st_row rfl (st_row _ _ _ _ (Ex.tx e6) hfa4))) fun _ _ => rfl
end
end K87
set_option Elab.async false
set_option linter.all false
set_option maxRecDepth 100000
set_option maxHeartbeats 4000000
namespace K87
open PySem L2 Evl PyProof.Rows
open C8 (Cal pe_c)
theorem sub_of_mem {g s : Rw} (hg : g.Pairwise (· < ·)) (hs : s.Pairwise (· < ·)) (h : ∀ p ∈ g, p ∈ s) : g.Sublist s := by
  have e : g = s.filter fun p => decide (p ∈ g) := sorted_ext hg (sub_asc List.filter_sublist hs) fun x => by
    rw [List.mem_filter, decide_eq_true_eq]
    exact ⟨fun hx => ⟨h x hx, hx⟩, fun hx => hx.2⟩
  rw [e]
  exact List.filter_sublist
theorem Args3.sub {H : Hp} {v u g : V} {wb : Wb} {s go : Rw} (a : Args3 H v u g wb s go) (hf : fits wb s go = true) : go.Sublist s := sub_of_mem a.gok.asc a.sok.asc (fits_iff.mp hf).1
section
variable {K : PySem.W.Frag} {σ : L2.St} {H H' : Hp} {ta tb te : TE} {α β γ : Type}
theorem evn_sortRows {l : List (List Int)} (ha : EvD ta σ H fun v H1 => rLst rRow H1 v l) : EvN (tCB (rSortRows K) (tCons ta tNil)) σ H fun v H1 => ∃ l2, l.Perm l2 ∧ rLst rRow H1 v l2 := fun H1 e Q q =>
  ha H1 e _ fun x H2 e2 ⟨a, xs, ex, h, p⟩ => ⟨a, xs, by rw [ex], sq_of h, fun y hy => by
    obtain ⟨i, hi, rfl⟩ := List.getElem_of_mem hy
    obtain ⟨l0, _, b, eb, hb⟩ := Paired.at p (List.getElem?_eq_getElem hi)
    exact ⟨b, l0, eb, hb⟩, fun ys q0 hp hq0 => by
    obtain ⟨m, h1, h2⟩ := Paired.perm hp.symm p
    exact q q0 _ (fresh_back e2 hq0) (e2.trans (Ex.new hq0)) ⟨m, h1, q0, ys, rfl, upd_same, Paired.st st_row (Tx.new hq0) h2⟩⟩
theorem tyes_true {σ : L2.St} {H : Hp} {k : Bool → Hp → Prop} (h : k true H) : tYes σ H k := h
/-- what stands at p -/
def tPut (p : Addr) : TE := fun _ H Q => Q (.ref p) H
theorem ev_put (p : Addr) : Ev (tPut p) σ H (.ref p) := fun H1 _ Q q => q H1 (Ex.refl H1)
/-- a list that a call gave, some list with a right law -/
theorem evn_lcX {te0 : TE} {g : TG} {tt : TT} {vs : List Nat} {R : Rep α} {Pr : List α → Prop} {P : V → Hp → Prop} (h : EvN te0 σ H fun v H1 => ∃ T, Pr T ∧ rLst R H1 v T)
    (k : ∀ p T H1, Ex H H1 → Pr T → rLst R H1 (.ref p) T → EvN (tLc (iList K (tPut p)) g tt te vs) σ H1 P) : EvN (tLc (iList K te0) g tt te vs) σ H P := fun H1 e Q q =>
  h H1 e _ fun p H2 np e2 ⟨T, hT, hl⟩ => k p T H2 (e.trans e2) hT hl H2 (Ex.refl _) Q fun r H3 nr e3 hr => q r H3 (fresh_back e2 nr) (e2.trans e3) hr
theorem s_forX {te0 : TE} {g : TG} {tb : TS} {D : Ends} {R : Rep α} {Pr : List α → Prop} (h : EvN te0 σ H fun v H1 => ∃ T, Pr T ∧ rLst R H1 v T)
    (k : ∀ p T H1, H p = none → Ex H H1 → Pr T → rLst R H1 (.ref p) T → tFor (iList K (tPut p)) g tb D σ H1) : tFor (iList K te0) g tb D σ H :=
  h H (Ex.refl _) _ fun p H2 np e2 ⟨T, hT, hl⟩ => k p T H2 np e2 hT hl
theorem src_put {R : Rep α} {M : Addr → Prop} {T : List α} {p : Addr} (s : Stab R) (m : MOk M H) (hl : rLst R H (.ref p) T) (na : ¬ M p) : Src (iList K (tPut p)) σ H M R T := by
  obtain ⟨a, xs, ea, ha, pa⟩ := hl
  have e : p = a := V.ref.inj ea
  subst e
  exact src_lstK s m (ev_put p) ha na pa
theorem evd_minX {Pr : List Int → Prop} (hn : ∀ ns, Pr ns → ns ≠ []) (ha : EvD ta σ H fun v H1 => ∃ ns, Pr ns ∧ rLst rI H1 v ns) : EvD (tCB (rMin K) (tCons ta tNil)) σ H fun v _ => ∃ m ns, v = .int m ∧ Pr ns ∧ m ∈ ns ∧ ∀ y ∈ ns, m ≤ y := fun H1 e Q q =>
  ha H1 e _ fun x H2 e2 ⟨ns, hP, a, xs, ex, h, p⟩ => ⟨a, ns, by rw [ex], sq_of (by rw [h, ints_of_pi p]), List.length_pos_iff.mpr (hn ns hP), fun m h1 h2 => q _ H2 e2 ⟨m, ns, rfl, hP, h1, h2⟩⟩
theorem Tells.ne {wb : Wb} {s go : Rw} {T : List Rw} (hw : WebOk wb) (hs : SetOk wb s) (hg : go.Sublist s) (hf : fits wb s go = true) (h : (∀ r, r ∈ T ↔ Tell wb s go r)) : T ≠ [] := fun e => by
  have := (h _).mpr (free_tell hw hs hg hf)
  rw [e] at this
  cases this
/-- [e for x in .. for y in ..] -/
theorem evn_lc2 {wi wi1 : TI} {j j1 : Nat} {vs vs1 : List Nat} {Ra : Rep α} {Rb : Rep β} {R2 : Rep γ} {la : List α} {lb : List β} {g : α → β → γ} (hs : Src wi σ H M0 Ra la) (s2 : Stab R2) (hz : la.length ≤ 100) (hz1 : lb.length ≤ 100) (hw : ∀ x, wipe ((wipe σ vs).set j (some x)) vs = wipe σ vs)
    (hw1 : ∀ x y, wipe ((wipe ((wipe σ vs).set j (some x)) vs1).set j1 (some y)) vs1 = wipe ((wipe σ vs).set j (some x)) vs1)
    (h1 : ∀ M H1 x l, Tx H H1 → MOk M H1 → l ∈ la → Ra H1 x l → Src wi1 ((wipe σ vs).set j (some x)) H1 M Rb lb) (sa : Stab Ra)
    (he : ∀ H1 x l y m, Ex H H1 → l ∈ la → m ∈ lb → Ra H1 x l → Rb H1 y m → EvD te ((wipe ((wipe σ vs).set j (some x)) vs1).set j1 (some y)) H1 fun z H2 => R2 H2 z (g l m)) :
    EvN (tLc2 wi (gName j) tYes wi1 (gName j1) tYes te vs vs1) σ H fun v H1 => rLst R2 H1 v (la.flatMap fun a => lb.map (g a)) := fun H0 e0 Q q => by
  refine hs H0 e0 _ fun J H1 e1 Wk D hD => ?_
  let Pv : Nat → Hp → Prop := fun i H' => Ex H1 H' ∧ ∃ ys, H' D = some (.lst ys) ∧ Paired (R2 H') ys ((la.take i).flatMap fun a => lb.map (g a)) ∧ ys.length ≤ i * 100
  refine ⟨fun i m H' => m = la.length - i ∧ i ≤ la.length ∧ Pv i H', ⟨_, rfl, Nat.zero_le _, Ex.new hD, [], upd_same, .nil, Nat.le_refl _⟩, ?_⟩
  rintro i m H' ⟨rfl, hi, ex, ys, hy, py, hl⟩
  have gk : Kp M0 H1 H' := Kp.of_ex ex
  by_cases hlt : i < la.length
  · refine .inr ⟨Wk.goes i H' hlt gk, Pv (i + 1), fun H'' p => ⟨la.length - (i + 1), by omega, rfl, hlt, p⟩, fun x H'' y => ?_⟩
    obtain ⟨rfl, l, hl1, rl⟩ := Wk.yields i H' x H'' hlt gk y
    have hm : l ∈ la := List.mem_of_getElem? hl1
    have et : la.take (i + 1) = la.take i ++ [l] := by rw [List.take_add_one, hl1] <;> rfl
    have exx := (e0.trans e1).trans ex
    have mk : MOk (fun b => b = D) H'' := mok_new hy
    refine ⟨hw x, tyes_true ?_⟩
    rw [if_pos rfl]
    refine h1 _ H'' x l (Ex.tx exx) mk hm rl H'' (Ex.refl _) _ fun J1 H4 e4 W1 => ?_
    have hy4 := e4 _ _ hy
    let Pw : Nat → Hp → Prop := fun k H5 => Ex H1 H5 ∧ Kp (fun b => b = D) H4 H5 ∧ ∃ zs, H5 D = some (.lst zs) ∧ Paired (R2 H5) zs (((la.take i).flatMap fun a => lb.map (g a)) ++ (lb.take k).map (g l)) ∧ zs.length ≤ i * 100 + k
    refine ⟨fun k m H5 => m = lb.length - k ∧ k ≤ lb.length ∧ Pw k H5, ⟨_, rfl, Nat.zero_le _, ex.trans e4, Kp.refl _, ys, hy4, by
      rw [List.take_zero, List.map_nil, List.append_nil]
      exact Paired.st s2 (Ex.tx e4) py, by omega⟩, ?_⟩
    rintro k m H5 ⟨rfl, hk, ex5, k5, zs, hz5, pz, hzl⟩
    by_cases hlt1 : k < lb.length
    · refine .inr ⟨W1.goes k H5 hlt1 k5, Pw (k + 1), fun H'' p => ⟨lb.length - (k + 1), by omega, rfl, hlt1, p⟩, fun y H6 yy => ?_⟩
      obtain ⟨rfl, m, hm1, rm⟩ := W1.yields k H5 y H6 hlt1 k5 yy
      have hmm : m ∈ lb := List.mem_of_getElem? hm1
      have et1 : lb.take (k + 1) = lb.take k ++ [m] := by rw [List.take_add_one, hm1] <;> rfl
      refine ⟨hw1 x y, tyes_true ?_⟩
      rw [if_pos rfl]
      have t6 : Tx H'' H6 := (Ex.tx e4).trans (k5.tx (mok_new hy4))
      have e6 : Ex H H6 := (e0.trans e1).trans ex5
      refine he H6 x l y m e6 hm hmm (sa _ _ _ _ t6 rl) rm H6 (Ex.refl _) _ fun z H7 e7 rz => ⟨zs, e7 _ _ hz5, sz_lt ?_, Ex.mut (ex5.trans e7) hD, (k5.trans (Kp.of_ex e7)).mut rfl, zs ++ [z], upd_same, ?_, ?_⟩
      · have : i * 100 ≤ 10000 := by omega
        omega
      · rw [et1, List.map_append, ← List.append_assoc]
        have tx : Tx H6 (upd H7 D (.lst (zs ++ [z]))) := (Ex.tx e7).mut (e7 _ _ hz5) (fun _ z => by cases z)
        have tx7 : Tx H7 (upd H7 D (.lst (zs ++ [z]))) := (Ex.tx (Ex.refl H7)).mut (e7 _ _ hz5) (fun _ z => by cases z)
        exact Paired.snoc' (Paired.st s2 tx pz) (s2 _ _ _ _ tx7 rz)
      · rw [List.length_append, List.length_singleton]; omega
    · have ek : k = lb.length := by omega
      subst ek
      refine .inl ⟨W1.stops H5 k5, ex5, zs, hz5, ?_, by omega⟩
      rw [et, List.flatMap_append, List.flatMap_cons, List.flatMap_nil, List.append_nil]
      rw [List.take_length] at pz
      exact pz
  · have ei : i = la.length := by omega
    subst ei
    rw [List.take_length] at py
    exact .inl ⟨Wk.stops H' gk, q D H' (fresh_back e1 hD) (e1.trans ex) ⟨D, ys, rfl, hy, py⟩⟩
end
section
variable {P : Program} {w : World} {K : PySem.W.Frag} {mg : Str → Option Value} {base : Heap}
/-! ### apart_in -/
def spApart : Sp := fun vs H Q _ => ∃ v u wb l, vs = [v, u] ∧ rTup rRow H v wb ∧ rRow H u l ∧ WebOk wb ∧ SetOk wb l ∧ ∀ H2, Ex H H2 → Q (.bl (apart wb l)) H2
theorem k_apart_in (D : Dn K mg "apart_in" sApartIn ["web", "people"]) (T : Bt mg) : Cal P w K mg base 1 "apart_in" spApart [] := by
  refine mkCal D scApartIn (fun vs H Q E h => ?_) (fun f cdv A outer s H vs Q E hr h => ?_)
  · obtain ⟨v, u, wb, l, rfl, _⟩ := h
    rfl
  · obtain ⟨v, u, wb, l, rfl, hw, hu, wok, ok, q⟩ := h
    refine ⟨_, (pss_one (ps_ret (pe_not (pe_callB (anyK K rfl) (by rfl) T.n_any (by decide +kernel) (pa_cons (pe_lc2 (own := [("one", 2), ("other", 3)]) (vs1 := [3]) rfl scApartIn.nd (pi_tupK K (pv 1)) (blkOk_by (own := [("one", 2), ("other", 3)]) (by kernel_rfl)) (by decide) (fun _ _ _ _ _ => (pg_name (i := 2) scApartIn.nd rfl (by first | exact Or.inl rfl | exact Or.inr rfl))) (fun _ _ _ _ _ => pts_nil) (fun _ _ _ _ _ => (pi_tupK K (pv 1))) (fun _ _ _ _ _ => (pg_name (i := 3) scApartIn.nd rfl (by first | exact Or.inl rfl | exact Or.inr rfl))) (fun _ _ _ _ _ => pts_nil) (fun _ _ _ _ _ => (pe_cmpR (in_seqK K) (pv 3) (pe_ix (ixTK K) (pv 0) (pv 2) (fun _ _ => rfl)) (by rfl)))) pa_nil))))), ?_⟩
    have hl := set_len wok ok
    refine s_ret (v := .bl (apart wb l)) (ev_is (ev_notV (ev_any (evn_lc2 (g := fun a b => decide (b ∈ fr wb a)) (src_row mok0 (evd_var st_row rfl hu)) st_B (by omega) (by omega) (fun _ => rfl) (fun _ _ => rfl)
      (fun M H1 x a t m hm r => src_row m (evd_var st_row rfl (st_row _ _ _ _ t hu))) st_I fun H1 x a y b e1 ha hb ra rb => ?_).d)) ?_) q
    · obtain rfl : x = .int a := ra
      obtain rfl : y = .int b := rb
      have r := ok.rng a ha
      exact evd_of (ev_inTD (ev_var rfl) (ev_web r.1 r.2 (evd_var (st_tup st_row) rfl (st_tup st_row _ _ _ _ (Ex.tx e1) hw)) (ev_var rfl))) fun _ _ => rfl
    · unfold apart
      rw [List.any_flatMap]
      simp only [any_id]
/-! ### can_come, need_way, callers -/
def spCan : Sp := fun vs H Q _ => ∃ v u g wb s go, vs = [v, u, g] ∧ Args3 H v u g wb s go ∧ ∀ H2, Ex H H2 → Q (.bl (fits wb s go)) H2
theorem k_can_come (D : Dn K mg "can_come" sCanCome ["web", "standing", "goal"]) (c_need_two : Cal P w K mg base 5 "need_two" spNeedTwo []) (c_fits : Cal P w K mg base 2 "fits" spFits []) : Cal P w K mg base 6 "can_come" spCan [] := by
  refine mkCal D scCanCome (fun vs H Q E h => ?_) (fun f cdv A outer s H vs Q E hr h => ?_)
  · obtain ⟨v, u, g, wb, s, go, rfl, _⟩ := h
    rfl
  · obtain ⟨v, u, g, wb, s, go, rfl, a, q⟩ := h
    refine ⟨_, (pss_cons (ps_expr (pe_c c_need_two hr (by decide) (by rfl) (pa_cons (pv 0) (pa_cons (pv 1) (pa_cons (pv 2) pa_nil)))))
  (pss_one (ps_ret (pe_c c_fits hr (by decide) (by rfl) (pa_cons (pv 0) (pa_cons (pv 1) (pa_cons (pv 2) pa_nil))))))), ?_⟩
    refine q_drop (v := .non) (ev_call (ea_cons (ev_var rfl) (ea_cons (ev_var rfl) (ea_cons (ev_var rfl) ea_nil))) fun H2 e2 Q2 q2 E2 => ⟨v, u, g, wb, s, go, rfl, a.tx (Ex.tx e2), q2⟩) fun H1 e1 => ?_
    exact s_ret (ev_call (ea_cons (ev_var rfl) (ea_cons (ev_var rfl) (ea_cons (ev_var rfl) ea_nil))) fun H2 e2 Q2 q2 E2 => ⟨v, u, g, wb, s, go, rfl, a.tx (Ex.tx (e1.trans e2)), q2⟩) fun H2 e2 => q H2 (e1.trans e2)
def spNeedWay : Sp := fun vs H Q _ => ∃ v u g wb s go, vs = [v, u, g] ∧ Args3 H v u g wb s go ∧ fits wb s go = true ∧ ∀ H2, Ex H H2 → Q .non H2
theorem k_need_way (D : Dn K mg "need_way" sNeedWay ["web", "standing", "goal"]) (c_need_two : Cal P w K mg base 5 "need_two" spNeedTwo []) (c_fits : Cal P w K mg base 2 "fits" spFits []) : Cal P w K mg base 6 "need_way" spNeedWay [] := by
  refine mkCal D scNeedWay (fun vs H Q E h => ?_) (fun f cdv A outer s H vs Q E hr h => ?_)
  · obtain ⟨v, u, g, wb, s, go, rfl, _⟩ := h
    rfl
  · obtain ⟨v, u, g, wb, s, go, rfl, a, hf, q⟩ := h
    refine ⟨_, (pss_cons (ps_expr (pe_c c_need_two hr (by decide) (by rfl) (pa_cons (pv 0) (pa_cons (pv 1) (pa_cons (pv 2) pa_nil)))))
  (pss_one (ps_if (pt_not (pt_val (pe_c c_fits hr (by decide) (by rfl) (pa_cons (pv 0) (pa_cons (pv 1) (pa_cons (pv 2) pa_nil)))))) (pss_one ps_never) pss_nil))), ?_⟩
    refine q_drop (v := .non) (ev_call (ea_cons (ev_var rfl) (ea_cons (ev_var rfl) (ea_cons (ev_var rfl) ea_nil))) fun H2 e2 Q2 q2 E2 => ⟨v, u, g, wb, s, go, rfl, a.tx (Ex.tx e2), q2⟩) fun H1 e1 => ?_
    exact s_never (et_is (et_not (et_B (ev_call (z := .bl true) (ea_cons (ev_var rfl) (ea_cons (ev_var rfl) (ea_cons (ev_var rfl) ea_nil))) fun H2 e2 Q2 q2 E2 => ⟨v, u, g, wb, s, go, rfl, a.tx (Ex.tx (e1.trans e2)), by rw [hf]; exact q2⟩))) rfl) fun H2 e2 => q H2 (e1.trans e2)
def spCallers : Sp := fun vs H Q _ => ∃ v u g wb s go, vs = [v, u, g] ∧ Args3 H v u g wb s go ∧ fits wb s go = true ∧ ∀ q H2, H q = none → Ex H H2 → rRow H2 (.ref q) (mayCall wb s go) → Q (.ref q) H2
theorem k_callers (D : Dn K mg "callers" sCallers ["web", "standing", "goal"]) (c_need_way : Cal P w K mg base 6 "need_way" spNeedWay []) (c_may_call : Cal P w K mg base 1 "may_call" spMay []) : Cal P w K mg base 7 "callers" spCallers [] := by
  refine mkCal D scCallers (fun vs H Q E h => ?_) (fun f cdv A outer s H vs Q E hr h => ?_)
  · obtain ⟨v, u, g, wb, s, go, rfl, _⟩ := h
    rfl
  · obtain ⟨v, u, g, wb, s, go, rfl, a, hf, q⟩ := h
    refine ⟨_, (pss_cons (ps_expr (pe_c c_need_way hr (by decide) (by rfl) (pa_cons (pv 0) (pa_cons (pv 1) (pa_cons (pv 2) pa_nil)))))
  (pss_one (ps_ret (pe_c c_may_call hr (by decide) (by rfl) (pa_cons (pv 0) (pa_cons (pv 1) (pa_cons (pv 2) pa_nil))))))), ?_⟩
    refine q_drop (v := .non) (ev_call (ea_cons (ev_var rfl) (ea_cons (ev_var rfl) (ea_cons (ev_var rfl) ea_nil))) fun H2 e2 Q2 q2 E2 => ⟨v, u, g, wb, s, go, rfl, a.tx (Ex.tx e2), hf, q2⟩) fun H1 e1 => ?_
    exact s_retN (evn_call (P := fun x H2 => rRow H2 x (mayCall wb s go)) (ea_cons (ev_var rfl) (ea_cons (ev_var rfl) (ea_cons (ev_var rfl) ea_nil))) fun H2 e2 Q2 q2 => ⟨v, u, g, wb, s, go, rfl, a.tx (Ex.tx (e1.trans e2)), q2⟩) fun p H2 np e2 hp => q p H2 (fresh_back e1 np) (e1.trans e2) hp
/-! ### leads, telling_in, telling, distance -/
theorem setok_after {wb : Wb} : ∀ {row s : Rw}, SetOk wb s → SetOk wb (after wb s row)
  | [], s, h => h
  | p :: row, s, h => setok_after (row := row) (s := callIn wb s p) (h.sub (call_sub wb s p))
theorem after_snoc (wb : Wb) (s row : Rw) (p : Int) : after wb s (row ++ [p]) = callIn wb (after wb s row) p := by
  unfold after
  rw [List.foldl_append] <;> rfl
def spLeads : Sp := fun vs H Q _ => ∃ v u g r wb s go row, vs = [v, u, g, r] ∧ Args3 H v u g wb s go ∧ rRow H r row ∧ row.length ≤ 7 ∧ ∀ H2, Ex H H2 → Q (.bl (leads wb s go row)) H2
theorem k_leads (D : Dn K mg "leads" sLeads ["web", "standing", "goal", "people"]) (T : Bt mg) (c_call_in : Cal P w K mg base 1 "call_in" spCall []) : Cal P w K mg base 2 "leads" spLeads [] := by
  refine mkCal D scLeads (fun vs H Q E h => ?_) (fun f cdv A outer s H vs Q E hr h => ?_)
  · obtain ⟨v, u, g, r, wb, s, go, row, rfl, _⟩ := h
    rfl
  · obtain ⟨v, u, g, r, wb, s, go, row, rfl, a, hrow, h7, q⟩ := h
    refine ⟨_, (pss_cons (ps_set (i := 4) scLeads.nd rfl (Or.inl rfl) (pv 1))
  (pss_cons (ps_for PassesOwn.never rfl (pi_tupK K (pv 3)) (pg_name (i := 5) scLeads.nd rfl (by first | exact Or.inl rfl | exact Or.inr rfl))
  (pss_one (ps_set (i := 4) scLeads.nd rfl (Or.inl rfl) (pe_c c_call_in hr (by decide) (by rfl) (pa_cons (pv 0) (pa_cons (pv 4) (pa_cons (pv 5) pa_nil)))))))
  (pss_one (ps_ret (pe_cmpR (eqDK K hr.units) (pv 4) (pv 2) (nomark _)))))), ?_⟩
    refine q_asg (ev_var rfl) fun H1 e1 => ?_
    have a1 := a.tx (Ex.tx e1)
    have hr1 := st_row _ _ _ _ (Ex.tx e1) hrow
    refine s_for (src_row mok0 (evd_var st_row rfl hr1)) (fun Hs i σ' H' => Ex Hs H' ∧ ∃ x y, σ' = [some v, some u, some g, some r, some x, y] ∧ rRow H' x (after wb s (row.take i))) (fun Hs es => ⟨Ex.refl _, u, none, rfl, (a1.tx (Ex.tx es)).st⟩) (fun _ _ _ _ h => Kp.of_ex h.1) ?_ ?_
    · rintro Hs i x p σ' H' es hl rl ⟨ex, z, y, rfl, hz⟩
      obtain rfl : x = .int p := rl
      have hi : i < row.length := (List.getElem?_eq_some_iff.mp hl).1
      have a2 := a1.tx (Ex.tx (es.trans ex))
      refine s_asgD (evd_call (P := fun x H2 => rRow H2 x (callIn wb (after wb s (row.take i)) p)) (ea_cons (ev_var rfl) (ea_cons (ev_var rfl) (ea_cons (ev_var rfl) ea_nil))) fun H2 e2 Q2 q2 => ⟨v, z, p, wb, _, rfl, (a2.tx (Ex.tx e2)).web, st_row _ _ _ _ (Ex.tx e2) hz, a.wok, setok_after a.sok, fun x H3 e3 h3 => q2 x H3 e3 h3⟩) fun x H2 e2 hx => ⟨ex.trans e2, x, _, rfl, ?_⟩
      have et : row.take (i + 1) = row.take i ++ [p] := by rw [List.take_add_one, hl] <;> rfl
      rw [et, after_snoc]
      exact hx
    · rintro Hs σ' H' es ⟨ex, z, y, rfl, hz⟩
      rw [List.take_length] at hz
      have a2 := a1.tx (Ex.tx (es.trans ex))
      exact s_ret (v := .bl (leads wb s go row)) (ev_is (ev_eqRow (evd_var st_row rfl hz) (evd_var st_row rfl a2.goal)) rfl) fun H2 e2 => q H2 (((e1.trans es).trans ex).trans e2)
/-- some list of the tellings -/
def Tells (wb : Wb) (s go : Rw) (T : List Rw) : Prop := (∀ r, r ∈ T ↔ Tell wb s go r) ∧ T.length ≤ 128
def spTelling0 : Sp := fun vs H Q _ => ∃ v u g wb s go, vs = [v, u, g] ∧ Args3 H v u g wb s go ∧ ∀ q H2 T, H q = none → Ex H H2 → Tells wb s go T → rLst rRow H2 (.ref q) T → Q (.ref q) H2
theorem k_telling_in (D : Dn K mg "telling_in" sTellingIn ["web", "standing", "goal"]) (T : Bt mg) (c_choices : Cal P w K mg base 1 "choices" spChoices []) (c_may_call : Cal P w K mg base 1 "may_call" spMay []) (c_leads : Cal P w K mg base 2 "leads" spLeads []) : Cal P w K mg base 3 "telling_in" spTelling0 [] := by
  refine mkCal D scTellingIn (fun vs H Q E h => ?_) (fun f cdv A outer s H vs Q E hr h => ?_)
  · obtain ⟨v, u, g, wb, s, go, rfl, _⟩ := h
    rfl
  · obtain ⟨v, u, g, wb, s, go, rfl, a, q⟩ := h
    refine ⟨_, (pss_one (ps_ret (pe_callB (sortRowsK K hr.units) (by rfl) T.n_sorted (by decide +kernel) (pa_cons (pe_lc (own := [("row", 3)]) rfl scTellingIn.nd (pi_listK K (pe_c c_choices hr (by decide) (by rfl) (pa_cons (pe_c c_may_call hr (by decide) (by rfl) (pa_cons (pv 0) (pa_cons (pv 1) (pa_cons (pv 2) pa_nil)))) pa_nil))) (blkOk_by (own := [("row", 3)]) (by kernel_rfl)) (fun _ _ _ _ _ => (pg_name (i := 3) scTellingIn.nd rfl (by first | exact Or.inl rfl | exact Or.inr rfl))) (fun _ _ _ _ _ => (pts_one (pt_val (pe_c c_leads hr (by decide) (by rfl) (pa_cons (pv 0) (pa_cons (pv 1) (pa_cons (pv 2) (pa_cons (pv 3) pa_nil)))))))) (fun _ _ _ _ _ => (pv 3))) pa_nil)))), ?_⟩
    have hl := set_len a.wok a.sok
    have hm : (mayCall wb s go).length ≤ 7 := Nat.le_trans (may_sub (w := wb) (s := s) (g := go)).length_le hl
    refine s_retN (evn_sortRows (evn_lcF (f := leads wb s go) (src_lst st_row mok0 (evn_call1 (P := fun x H2 => rRow H2 x (mayCall wb s go)) (P' := fun x H2 => rLst rRow H2 x (choices (mayCall wb s go))) (evn_call (P := fun x H2 => rRow H2 x (mayCall wb s go)) (ea_cons (ev_var rfl) (ea_cons (ev_var rfl) (ea_cons (ev_var rfl) ea_nil))) fun H2 e2 Q2 q2 => ⟨v, u, g, wb, s, go, rfl, a.tx (Ex.tx e2), q2⟩).d
      fun x H2 e2 hx Q2 q2 => ⟨x, _, rfl, hx, hm, q2⟩)) st_row (by have := choices_small hm; omega) (fun _ => rfl) (fun _ => rfl) fun H2 x r e2 hr2 rx => ?_).d) fun p H2 np e2 ⟨l2, hp, hl2⟩ => q p H2 l2 np e2 ⟨fun r => ?_, ?_⟩ hl2
    · have hr7 : r.length ≤ 7 := Nat.le_trans ((mem_choices _ _).mp hr2).length_le hm
      exact et_B (ev_call (ea_cons (ev_var rfl) (ea_cons (ev_var rfl) (ea_cons (ev_var rfl) (ea_cons (ev_var rfl) ea_nil)))) fun H3 e3 Q3 q3 E3 => ⟨v, u, g, x, wb, s, go, r, rfl, a.tx (Ex.tx (e2.trans e3)), st_row _ _ _ _ (Ex.tx e3) rx, hr7, q3⟩)
    · rw [← hp.mem_iff, List.mem_filter, mem_choices]
      unfold Tell leads
      rw [decide_eq_true_eq]
    · rw [← hp.length_eq]
      exact Nat.le_trans (List.length_filter_le _ _) (choices_small hm)
def spTelling : Sp := fun vs H Q _ => ∃ v u g wb s go, vs = [v, u, g] ∧ Args3 H v u g wb s go ∧ fits wb s go = true ∧ ∀ q H2 T, H q = none → Ex H H2 → Tells wb s go T → rLst rRow H2 (.ref q) T → Q (.ref q) H2
theorem k_telling (D : Dn K mg "telling" sTelling ["web", "standing", "goal"]) (c_need_way : Cal P w K mg base 6 "need_way" spNeedWay []) (c_telling_in : Cal P w K mg base 3 "telling_in" spTelling0 []) : Cal P w K mg base 7 "telling" spTelling [] := by
  refine mkCal D scTelling (fun vs H Q E h => ?_) (fun f cdv A outer s H vs Q E hr h => ?_)
  · obtain ⟨v, u, g, wb, s, go, rfl, _⟩ := h
    rfl
  · obtain ⟨v, u, g, wb, s, go, rfl, a, hf, q⟩ := h
    refine ⟨_, (pss_cons (ps_expr (pe_c c_need_way hr (by decide) (by rfl) (pa_cons (pv 0) (pa_cons (pv 1) (pa_cons (pv 2) pa_nil)))))
  (pss_one (ps_ret (pe_c c_telling_in hr (by decide) (by rfl) (pa_cons (pv 0) (pa_cons (pv 1) (pa_cons (pv 2) pa_nil))))))), ?_⟩
    refine q_drop (v := .non) (ev_call (ea_cons (ev_var rfl) (ea_cons (ev_var rfl) (ea_cons (ev_var rfl) ea_nil))) fun H2 e2 Q2 q2 E2 => ⟨v, u, g, wb, s, go, rfl, a.tx (Ex.tx e2), hf, q2⟩) fun H1 e1 => ?_
    exact s_retN (evn_call (P := fun x H2 => ∃ T, Tells wb s go T ∧ rLst rRow H2 x T) (ea_cons (ev_var rfl) (ea_cons (ev_var rfl) (ea_cons (ev_var rfl) ea_nil))) fun H2 e2 Q2 q2 => ⟨v, u, g, wb, s, go, rfl, a.tx (Ex.tx (e1.trans e2)), fun p H3 T np e3 hT hp => q2 p H3 np e3 ⟨T, hT, hp⟩⟩) fun p H2 np e2 ⟨T, hT, hp⟩ => q p H2 T (fresh_back e1 np) (e1.trans e2) hT hp
def spDistance : Sp := fun vs H Q _ => ∃ v u g wb s go, vs = [v, u, g] ∧ Args3 H v u g wb s go ∧ fits wb s go = true ∧ ∀ H2 (m : Int), Ex H H2 → (∀ r, Tell wb s go r → m ≤ (r.length : Int)) → Q (.int m) H2
theorem k_distance (D : Dn K mg "distance" sDistance ["web", "standing", "goal"]) (T : Bt mg) (c_need_way : Cal P w K mg base 6 "need_way" spNeedWay []) (c_telling_in : Cal P w K mg base 3 "telling_in" spTelling0 []) : Cal P w K mg base 7 "distance" spDistance [] := by
  refine mkCal D scDistance (fun vs H Q E h => ?_) (fun f cdv A outer s H vs Q E hr h => ?_)
  · obtain ⟨v, u, g, wb, s, go, rfl, _⟩ := h
    rfl
  · obtain ⟨v, u, g, wb, s, go, rfl, a, hf, q⟩ := h
    refine ⟨_, (pss_cons (ps_expr (pe_c c_need_way hr (by decide) (by rfl) (pa_cons (pv 0) (pa_cons (pv 1) (pa_cons (pv 2) pa_nil)))))
  (pss_one (ps_ret (pe_callB (minK K rfl) (by rfl) T.n_min (by decide +kernel) (pa_cons (pe_lc (own := [("row", 3)]) rfl scDistance.nd (pi_listK K (pe_c c_telling_in hr (by decide) (by rfl) (pa_cons (pv 0) (pa_cons (pv 1) (pa_cons (pv 2) pa_nil))))) (blkOk_by (own := [("row", 3)]) (by kernel_rfl)) (fun _ _ _ _ _ => (pg_name (i := 3) scDistance.nd rfl (by first | exact Or.inl rfl | exact Or.inr rfl))) (fun _ _ _ _ _ => pts_nil) (fun _ _ _ _ _ => (pe_callB (lenK K) (by rfl) T.n_len (by decide +kernel) (pa_cons (pv 3) pa_nil)))) pa_nil))))), ?_⟩
    refine q_drop (v := .non) (ev_call (ea_cons (ev_var rfl) (ea_cons (ev_var rfl) (ea_cons (ev_var rfl) ea_nil))) fun H2 e2 Q2 q2 E2 => ⟨v, u, g, wb, s, go, rfl, a.tx (Ex.tx e2), hf, q2⟩) fun H1 e1 => ?_
    refine s_retD (evd_minX (Pr := fun ns => ∃ T, Tells wb s go T ∧ ns = T.map fun r => (r.length : Int)) (fun ns ⟨T, hT, e⟩ => ?_) (evn_lcX (Pr := Tells wb s go) (R := rRow) (evn_call (P := fun x H2 => ∃ T, Tells wb s go T ∧ rLst rRow H2 x T) (ea_cons (ev_var rfl) (ea_cons (ev_var rfl) (ea_cons (ev_var rfl) ea_nil))) fun H2 e2 Q2 q2 => ⟨v, u, g, wb, s, go, rfl, a.tx (Ex.tx (e1.trans e2)), fun p H3 T np e3 hT hp => q2 p H3 np e3 ⟨T, hT, hp⟩⟩) fun p T H2 e2 hT hl => ?_).d) fun z H2 e2 ⟨m, ns, ez, ⟨T, hT, en⟩, h1, h2⟩ => ?_
    · rw [e]
      have := Tells.ne a.wok a.sok (a.sub hf) hf hT.1
      cases T with
      | nil => exact absurd rfl this
      | cons r T => simp
    · refine (evn_lc0 (g := fun r => (r.length : Int)) (src_put st_row mok0 hl (fun z => z)) st_I (by have := hT.2; omega) (fun _ => rfl) fun H3 x r e3 hr rx => ?_).imp fun _ _ _ h => ⟨_, ⟨T, hT, rfl⟩, h⟩
      obtain ⟨b, rfl, hb⟩ := rx
      refine evd_of (ev_lenT (ev_var rfl) hb) fun _ _ => ?_
      show V.int _ = V.int _
      rw [List.length_map]
    · subst ez
      refine q H2 m (e1.trans e2) fun r hr => ?_
      refine h2 _ ?_
      rw [en]
      exact List.mem_map.mpr ⟨r, (hT.1 r).mpr hr, rfl⟩
end
end K87
set_option Elab.async false
set_option linter.all false
set_option maxRecDepth 100000
set_option maxHeartbeats 4000000
namespace K87
open PySem L2 Evl PyProof.Rows
open C8 (Cal pe_c)
section
variable {P : Program} {w : World} {K : PySem.W.Frag} {mg : Str → Option Value} {base : Heap}
theorem sub_args {H : Hp} {v u g : V} {wb : Wb} {s go : Rw} (hv : rTup rRow H v wb) (hu : rRow H u s) (hg : rRow H g go) (wok : WebOk wb) (sok : SetOk wb s) (h : go.Sublist s) : Args3 H v u g wb s go := ⟨hv, hu, hg, wok, sok, sok.sub h⟩
/-! ### ends_in, ends -/
def EndsL (wb : Wb) (s : Rw) (T : List Rw) : Prop := (∀ r, r ∈ T ↔ IsEnd wb s r) ∧ T.length ≤ 128
def spEnds : Sp := fun vs H Q _ => ∃ v u wb s, vs = [v, u] ∧ rTup rRow H v wb ∧ rRow H u s ∧ WebOk wb ∧ SetOk wb s ∧ ∀ q H2 T, H q = none → Ex H H2 → EndsL wb s T → rLst rRow H2 (.ref q) T → Q (.ref q) H2
theorem k_ends_in (D : Dn K mg "ends_in" sEndsIn ["web", "standing"]) (T : Bt mg) (c_choices : Cal P w K mg base 1 "choices" spChoices []) (c_apart_in : Cal P w K mg base 1 "apart_in" spApart []) (c_fits : Cal P w K mg base 2 "fits" spFits []) : Cal P w K mg base 3 "ends_in" spEnds [] := by
  refine mkCal D scEndsIn (fun vs H Q E h => ?_) (fun f cdv A outer s H vs Q E hr h => ?_)
  · obtain ⟨v, u, wb, s, rfl, _⟩ := h
    rfl
  · obtain ⟨v, u, wb, s, rfl, hw, hs, wok, ok, q⟩ := h
    refine ⟨_, (pss_one (ps_ret (pe_callB (sortRowsK K hr.units) (by rfl) T.n_sorted (by decide +kernel) (pa_cons (pe_lc (own := [("row", 2)]) rfl scEndsIn.nd (pi_listK K (pe_c c_choices hr (by decide) (by rfl) (pa_cons (pv 1) pa_nil))) (blkOk_by (own := [("row", 2)]) (by kernel_rfl)) (fun _ _ _ _ _ => (pg_name (i := 2) scEndsIn.nd rfl (by first | exact Or.inl rfl | exact Or.inr rfl))) (fun _ _ _ _ _ => (pts_one (PW.pt (pw_and (pt_val (pe_c c_apart_in hr (by decide) (by rfl) (pa_cons (pv 0) (pa_cons (pv 2) pa_nil)))) (pw_and1 (pt_val (pe_c c_fits hr (by decide) (by rfl) (pa_cons (pv 0) (pa_cons (pv 1) (pa_cons (pv 2) pa_nil)))))))))) (fun _ _ _ _ _ => (pv 2))) pa_nil)))), ?_⟩
    have hl := set_len wok ok
    refine s_retN (evn_sortRows (evn_lcF (f := fun r => apart wb r && fits wb s r) (src_lst st_row mok0 (evn_call (P := fun x H2 => rLst rRow H2 x (choices s)) (ea_cons (ev_var rfl) ea_nil) fun H2 e2 Q2 q2 => ⟨u, s, rfl, st_row _ _ _ _ (Ex.tx e2) hs, hl, q2⟩)) st_row (by have := choices_small hl; omega) (fun _ => rfl) (fun _ => rfl) fun H2 x r e2 hr2 rx => ?_).d) fun p H2 np e2 ⟨l2, hp, hl2⟩ => q p H2 l2 np e2 ⟨fun r => ?_, ?_⟩ hl2
    · have hsub := (mem_choices _ _).mp hr2
      have hw2 := st_tup st_row _ _ _ _ (Ex.tx e2) hw
      have hs2 := st_row _ _ _ _ (Ex.tx e2) hs
      refine et_and (et_B (ev_call (z := .bl (apart wb r)) (ea_cons (ev_var rfl) (ea_cons (ev_var rfl) ea_nil)) fun H3 e3 Q3 q3 E3 => ⟨v, x, wb, r, rfl, st_tup st_row _ _ _ _ (Ex.tx e3) hw2, st_row _ _ _ _ (Ex.tx e3) rx, wok, ok.sub hsub, q3⟩))
        fun _ => et_B (ev_call (z := .bl (fits wb s r)) (ea_cons (ev_var rfl) (ea_cons (ev_var rfl) (ea_cons (ev_var rfl) ea_nil))) fun H3 e3 Q3 q3 E3 => ⟨v, u, x, wb, s, r, rfl, (sub_args hw2 hs2 rx wok ok hsub).tx (Ex.tx e3), q3⟩)
    · rw [← hp.mem_iff, List.mem_filter, mem_choices]
      unfold IsEnd
      rw [Bool.and_eq_true]
    · rw [← hp.length_eq]
      exact Nat.le_trans (List.length_filter_le _ _) (choices_small hl)
theorem k_ends (D : Dn K mg "ends" sEnds ["web", "standing"]) (c_need_state : Cal P w K mg base 4 "need_state" spNeedState []) (c_ends_in : Cal P w K mg base 3 "ends_in" spEnds []) : Cal P w K mg base 5 "ends" spEnds [] := by
  refine mkCal D scEnds (fun vs H Q E h => ?_) (fun f cdv A outer s H vs Q E hr h => ?_)
  · obtain ⟨v, u, wb, s, rfl, _⟩ := h
    rfl
  · obtain ⟨v, u, wb, s, rfl, hw, hs, wok, ok, q⟩ := h
    refine ⟨_, (pss_cons (ps_expr (pe_c c_need_state hr (by decide) (by rfl) (pa_cons (pv 0) (pa_cons (pv 1) pa_nil))))
  (pss_one (ps_ret (pe_c c_ends_in hr (by decide) (by rfl) (pa_cons (pv 0) (pa_cons (pv 1) pa_nil)))))), ?_⟩
    refine q_drop (v := .non) (ev_call (ea_cons (ev_var rfl) (ea_cons (ev_var rfl) ea_nil)) fun H2 e2 Q2 q2 E2 => ⟨v, u, wb, s, rfl, st_tup st_row _ _ _ _ (Ex.tx e2) hw, st_row _ _ _ _ (Ex.tx e2) hs, wok, ok, q2⟩) fun H1 e1 => ?_
    exact s_retN (evn_call (P := fun x H2 => ∃ T, EndsL wb s T ∧ rLst rRow H2 x T) (ea_cons (ev_var rfl) (ea_cons (ev_var rfl) ea_nil)) fun H2 e2 Q2 q2 => ⟨v, u, wb, s, rfl, st_tup st_row _ _ _ _ (Ex.tx (e1.trans e2)) hw, st_row _ _ _ _ (Ex.tx (e1.trans e2)) hs, wok, ok, fun p H3 T np e3 hT hp => q2 p H3 np e3 ⟨T, hT, hp⟩⟩) fun p H2 np e2 ⟨T, hT, hp⟩ => q p H2 T (fresh_back e1 np) (e1.trans e2) hT hp
/-! ### reached_from -/
def mkD (ps : List (Rw × V)) : List (List Key × V) := ps.map fun x => (x.1.map Sum.inl, x.2)
def spReachedFrom : Sp := fun vs H Q _ => ∃ v u wb s, vs = [v, u] ∧ rTup rRow H v wb ∧ rRow H u s ∧ WebOk wb ∧ SetOk wb s ∧ ∀ p H2 ps, H p = none → Ex H H2 → H2 p = some (.dT (mkD ps)) → ps ≠ [] → (∀ x ∈ ps, Reach wb s x.1) → ps.length ≤ 128 → Q (.ref p) H2
theorem ev_newL {α : Type} {R : Rep α} {σ : L2.St} {H : Hp} : EvN (tLst tNil) σ H fun v H1 => rLst R H1 v ([] : List α) := fun H1 e Q q => ⟨Nat.zero_le _, fun p np => q p _ np (Ex.new np) ⟨p, [], rfl, upd_same, .nil⟩⟩
theorem key_inj {a b : Rw} (h : a.map (Sum.inl : Int → Key) = b.map Sum.inl) : a = b := (List.map_inj_right fun x y e => Sum.inl.inj e).mp h
theorem key_kv (r : Rw) : (r.map (Sum.inl : Int → Key)).map kV = r.map V.int := by rw [List.map_map] <;> rfl
theorem mkD_in (ps : List (Rw × V)) (r : Rw) : (valV (mkD ps) (r.map Sum.inl)).isSome = decide (r ∈ ps.map (·.1)) := by
  rw [← valV_any]
  unfold mkD
  rw [List.any_map, Bool.eq_iff_iff]
  simp only [List.any_eq_true, Function.comp, decide_eq_true_eq, List.mem_map]
  constructor
  · rintro ⟨x, hx, e⟩
    exact ⟨x, hx, key_inj e⟩
  · rintro ⟨x, hx, e⟩
    exact ⟨x, hx, by rw [e]⟩
theorem ev_dni {ty td : TE} {σ : L2.St} {H : Hp} {b p : Addr} {r : Rw} {ps : List (Rw × V)} (ha : Ev ty σ H (.ref b)) (hb : H b = some (.tup (r.map V.int))) (hc : Ev td σ H (.ref p)) (hp : H p = some (.dT (mkD ps))) : Ev (tDNotIn ty td) σ H (.bl (!decide (r ∈ ps.map (·.1)))) := fun H1 e Q q =>
  ha H1 e _ fun H2 e2 => hc H2 (e.trans e2) _ fun H3 e3 => ⟨p, _, rfl, DGet.t (((e.trans e2).trans e3) _ _ hp) (k := r.map Sum.inl) (by rw [key_kv]; exact ((e.trans e2).trans e3) _ _ hb), by
    rw [mkD_in]
    exact q H3 (e2.trans e3)⟩
/-- the dict at p, the new ones in the list at f -/
structure RInv (wb : Wb) (s : Rw) (H0 : Hp) (p f : Addr) (i : Nat) (H : Hp) (ps : List (Rw × V)) (ys : List V) (F : List Rw) : Prop where
  np : H0 p = none
  nf : H0 f = none
  ex : Ex H0 H
  hp : H p = some (.dT (mkD ps))
  nd : (ps.map (·.1)).Nodup
  re : ∀ x ∈ ps, Reach wb s x.1
  ne : ps ≠ []
  hf : H f = some (.lst ys)
  py : Paired (rRow H) ys F
  fr : ∀ h ∈ F, Reach wb s h ∧ h.length + i ≤ s.length
  le : F.length ≤ ps.length
theorem RInv.up {wb : Wb} {s : Rw} {H0 H H' : Hp} {p f : Addr} {i : Nat} {ps : List (Rw × V)} {ys : List V} {F : List Rw} (r : RInv wb s H0 p f i H ps ys F) (e : Ex H H') : RInv wb s H0 p f i H' ps ys F :=
  ⟨r.np, r.nf, r.ex.trans e, e _ _ r.hp, r.nd, r.re, r.ne, e _ _ r.hf, Paired.st st_row (Ex.tx e) r.py, r.fr, r.le⟩
theorem RInv.mok {wb : Wb} {s : Rw} {H0 H : Hp} {p f : Addr} {i : Nat} {ps : List (Rw × V)} {ys : List V} {F : List Rw} (r : RInv wb s H0 p f i H ps ys F) : MOk (fun b => b = p ∨ b = f) H := fun b hb => by
  rcases hb with rfl | rfl
  · exact ⟨_, r.hp, fun _ z => by cases z⟩
  · exact ⟨_, r.hf, fun _ z => by cases z⟩
theorem RInv.few {wb : Wb} {s : Rw} {H0 H : Hp} {p f : Addr} {i : Nat} {ps : List (Rw × V)} {ys : List V} {F : List Rw} (r : RInv wb s H0 p f i H ps ys F) (hs : s.length ≤ 7) : ps.length ≤ 128 := by
  have h := nodup_len (B := choices s) r.nd fun x hx => by
    obtain ⟨y, hy, rfl⟩ := List.mem_map.mp hx
    exact (mem_choices _ _).mpr (reach_sub (r.re y hy))
  rw [List.length_map] at h
  exact Nat.le_trans h (choices_small hs)
theorem k_reached_from (D : Dn K mg "reached_from" sReachedFrom ["web", "standing"]) (T : Bt mg) (c_movers_in : Cal P w K mg base 1 "movers_in" spMovers []) (c_call_in : Cal P w K mg base 1 "call_in" spCall []) : Cal P w K mg base 2 "reached_from" spReachedFrom [] := by
  refine mkCal D scReachedFrom (fun vs H Q E h => ?_) (fun f cdv A outer s H vs Q E hr h => ?_)
  · obtain ⟨v, u, wb, s, rfl, _⟩ := h
    rfl
  · obtain ⟨v, u, wb, s, rfl, hw, hs, wok, ok, q⟩ := h
    refine ⟨_, (pss_cons (ps_par3 (i := 2) (j := 3) (l := 4) rfl scReachedFrom.nd rfl rfl rfl (by decide) (by decide) (by decide) rfl rfl rfl (pa_cons (pe_disp1T (hu_of hr) (pv 1) pe_int) (pa_cons (pe_lst (pa_cons (pv 1) pa_nil)) (pa_cons pe_int pa_nil))) (by rfl))
  (pss_cons (ps_while PassesOwn.never (pt_cmpR (neDK K hr.units) (pv 3) (pe_lst pa_nil) (nomark _))
  (pss_cons (ps_aug (i := 4) scReachedFrom.nd rfl (Or.inl rfl) pe_int ip_add)
  (pss_cons (ps_set (i := 5) scReachedFrom.nd rfl (Or.inl rfl) (pe_lst pa_nil))
  (pss_cons (ps_for PassesOwn.never rfl (pi_listK K (pv 3)) (pg_name (i := 6) scReachedFrom.nd rfl (by first | exact Or.inl rfl | exact Or.inr rfl))
  (pss_one (ps_for PassesOwn.never rfl (pi_listK K (pe_c c_movers_in hr (by decide) (by rfl) (pa_cons (pv 0) (pa_cons (pv 6) pa_nil)))) (pg_name (i := 7) scReachedFrom.nd rfl (by first | exact Or.inl rfl | exact Or.inr rfl))
  (pss_cons (ps_set (i := 8) scReachedFrom.nd rfl (Or.inl rfl) (pe_c c_call_in hr (by decide) (by rfl) (pa_cons (pv 0) (pa_cons (pv 6) (pa_cons (pv 7) pa_nil)))))
  (pss_one (ps_if (pt_cmp (pc_dnotin (hu_of hr) (pv 8) (pv 2))) (pss_cons (ps_dput (hu_of hr) (pv 2) (pv 8) (pv 4) rfl)
  (pss_one (ps_expr (pe_bm PySem.F.plainAttrs_list PySem.F.slot_list_append PySem.F.type_list_append mt_append (pv 5) (pa_cons (pv 8) pa_nil))))) pss_nil))))))
  (pss_one (ps_set (i := 3) scReachedFrom.nd rfl (Or.inl rfl) (pv 5)))))))
  (pss_one (ps_ret (pv 2))))), ?_⟩
    have hl7 := set_len wok ok
    obtain ⟨b, rfl, hb⟩ := id hs
    refine fun p np => ⟨.ref b, rfl, b, s.map Sum.inl, rfl, ?_, upd_same, ?_⟩
    · rw [key_kv, upd_ne (ne_of_none hb np)]
      exact hb
    refine ⟨.ref b, rfl, by show 1 ≤ sizeLine; decide, fun l nl => ⟨_, _, _, rfl, ?_⟩⟩
    have r1 : RInv wb s H p l 0 (upd (upd (upd H p (.dT [])) p (.dT [(s.map Sum.inl, V.int 0)])) l (.lst [.ref b])) [(s, .int 0)] [.ref b] [s] := by
      have hlp : p ≠ l := fun z => by rw [← z, upd_same] at nl; cases nl
      have nl' : H l = none := by
        rw [upd_ne (fun z => hlp z.symm), upd_ne (fun z => hlp z.symm)] at nl
        exact nl
      have ex : Ex H (upd (upd (upd H p (.dT [])) p (.dT [(s.map Sum.inl, V.int 0)])) l (.lst [.ref b])) := Ex.mut (Ex.mut (Ex.new np) np) nl'
      refine ⟨np, nl', ex, ?_, by simp, fun x hx => ?_, by simp, upd_same, .cons ⟨b, rfl, ex _ _ hb⟩ .nil, fun h hh => ?_, Nat.le_refl _⟩
      · rw [upd_ne hlp, upd_same] <;> rfl
      · rw [List.mem_singleton.mp hx]
        exact .base
      · rw [List.mem_singleton.mp hh]
        exact ⟨.base, by omega⟩
    generalize upd (upd (upd H p (.dT [])) p (.dT [(s.map Sum.inl, V.int 0)])) l (.lst [.ref b]) = H1 at r1
    refine q_while (fun m σ' H' => ∃ (i : Nat) (la : Addr) (y5 y6 y7 y8 : Option V) (ps : List (Rw × V)) (ys : List V) (F : List Rw), σ' = [some v, some (.ref b), some (.ref p), some (.ref la), some (.int (i : Nat)), y5, y6, y7, y8] ∧ m = s.length + 2 - i ∧ RInv wb s H p la i H' ps ys F) _ ⟨0, l, none, none, none, none, _, _, _, rfl, rfl, r1⟩ ?_
    rintro m σ' H' ⟨i, la, y5, y6, y7, y8, ps, ys, F, rfl, rfl, ri⟩
    refine ⟨!decide (F = []), et_test (ev_neRows (evd_of (ev_var rfl) fun H2 e2 => ⟨la, ys, rfl, (ri.up e2).hf, (ri.up e2).py⟩) ev_newL.d), fun hb2 H2 e2 => ?_, fun _ H2 e2 => ?_⟩
    · have hF : F ≠ [] := by simpa using hb2
      have hi : i ≤ s.length := by
        cases F with
        | nil => exact absurd rfl hF
        | cons h0 F => have := (ri.fr h0 (by simp)).2; omega
      refine ⟨_, fun _ _ h => h, ?_⟩
      have ri2 := ri.up e2
      refine q_aug rfl ev_c fun H3 e3 => ?_
      have ri3 := ri2.up e3
      refine q_newL fun f nf => ?_
      have e4 : Ex H3 (upd H3 f (.lst [])) := Ex.new nf
      have ri4 := ri3.up e4
      have hlap : la ≠ p := fun z => by
        have h1 := ri4.hf
        rw [z, ri4.hp] at h1
        cases h1
      have hlaf : la ≠ f := fun z => by
        have h1 := ri3.hf
        rw [z, nf] at h1
        cases h1
      have rn : RInv wb s H p f (i + 1) (upd H3 f (.lst [])) ps [] [] := ⟨np, fresh_back ri3.ex nf, ri4.ex, ri4.hp, ri4.nd, ri4.re, ri4.ne, upd_same, .nil, (fun _ h => by cases h), Nat.zero_le _⟩
      generalize upd H3 f (.lst []) = H4 at e4 ri4 rn
      refine s_for (R := rRow) (M := fun b => b = p ∨ b = f) (src_lstK st_row rn.mok (ev_var rfl) ri4.hf (fun z => by rcases z with z | z; exact hlap z; exact hlaf z) ri4.py)
        (fun Hs j σ' H' => Kp (fun b => b = p ∨ b = f) Hs H' ∧ (∃ ps ys F, RInv wb s H p f (i + 1) H' ps ys F) ∧ ∃ y6 y7 y8, σ' = [some v, some (.ref b), some (.ref p), some (.ref la), some (.int ((i + 1 : Nat) : Int)), some (.ref f), y6, y7, y8]) (fun Hs es => ⟨Kp.refl _, ⟨_, _, _, rn.up es⟩, y6, y7, y8, rfl⟩) (fun _ _ _ _ h => h.1) ?_ ?_
      · rintro Hs j x h σ' H' es hl rh ⟨kp, ⟨ps2, ys2, F2, rj⟩, z6, z7, z8, rfl⟩
        obtain ⟨hre, hlen⟩ := ri.fr h (List.mem_of_getElem? hl)
        have okh : SetOk wb h := ok.sub (reach_sub hre)
        refine s_for (R := rI) (ls := moversIn wb h) (M := fun b => b = p ∨ b = f) (src_lst st_I rj.mok (evn_call (P := fun y H2 => rLst rI H2 y (moversIn wb h)) (ea_cons (ev_var rfl) (ea_cons (ev_var rfl) ea_nil)) fun H5 e5 Q5 q5 => ⟨v, x, wb, h, rfl, st_tup st_row _ _ _ _ (Ex.tx (rj.up e5).ex) hw, st_row _ _ _ _ (Ex.tx e5) rh, wok, okh, q5⟩))
          (fun Ht k σ' H' => Kp (fun b => b = p ∨ b = f) Ht H' ∧ (∃ ps ys F, RInv wb s H p f (i + 1) H' ps ys F) ∧ ∃ y7 y8, σ' = [some v, some (.ref b), some (.ref p), some (.ref la), some (.int ((i + 1 : Nat) : Int)), some (.ref f), some x, y7, y8]) (fun Ht et => ⟨Kp.refl _, ⟨_, _, _, rj.up et⟩, z7, z8, rfl⟩) (fun _ _ _ _ h => h.1) ?_ ?_
        · rintro Ht k z pe σ'' H'' et hl2 rz ⟨kp2, ⟨ps3, ys3, F3, rk⟩, w7, w8, rfl⟩
          obtain rfl : z = .int pe := rz
          have hmv : pe ∈ moversIn wb h := List.mem_of_getElem? hl2
          have rh2 : rRow H'' x h := st_row _ _ _ _ ((Ex.tx et).trans (kp2.tx (rj.mok.mono et))) rh
          refine q_asgD (evd_call (P := fun y H2 => rRow H2 y (callIn wb h pe)) (ea_cons (ev_var rfl) (ea_cons (ev_var rfl) (ea_cons (ev_var rfl) ea_nil))) fun H5 e5 Q5 q5 => ⟨v, x, pe, wb, h, rfl, st_tup st_row _ _ _ _ (Ex.tx (rk.up e5).ex) hw, st_row _ _ _ _ (Ex.tx e5) rh2, wok, okh, q5⟩) fun t H5 e5 ht => ?_
          obtain ⟨bt, rfl, hbt⟩ := ht
          have rk5 := rk.up e5
          have few := rk5.few hl7
          refine s_when (et_B (ev_dni (ev_var rfl) hbt (ev_var rfl) rk5.hp)) (fun hn H6 e6 => ?_) (fun hn H6 e6 => ⟨(kp2.trans (Kp.of_ex e5)).trans (Kp.of_ex e6), ⟨_, _, _, rk5.up e6⟩, _, _, rfl⟩)
          have hn' : callIn wb h pe ∉ ps3.map (·.1) := by simpa using hn
          have rk6 := rk5.up e6
          have hvn : valV (mkD ps3) ((callIn wb h pe).map Sum.inl) = none := by
            have := mkD_in ps3 (callIn wb h pe)
            rw [decide_eq_false hn'] at this
            exact Option.isNone_iff_eq_none.mp (by rw [← Option.not_isSome, this] <;> rfl)
          have hfp : f ≠ p := fun z => by
            have h1 := rk6.hf
            rw [z, rk6.hp] at h1
            cases h1
          have hyl := Paired.length rk6.py
          have hle := rk6.le
          have hre2 : Reach wb s (callIn wb h pe) := .step hre hmv
          have hbt6 := e6 _ _ hbt
          refine ⟨_, rfl, _, rfl, _, rfl, p, _, rfl, DPut.t rk6.hp (k := (callIn wb h pe).map Sum.inl) (by rw [key_kv]; exact hbt6) (sz_lt (by rw [mkD, List.length_map]; omega)), ?_⟩
          rw [putK_new _ hvn]
          have e7 : mkD ps3 ++ [((callIn wb h pe).map Sum.inl, V.int ((i + 1 : Nat) : Int))] = mkD (ps3 ++ [(callIn wb h pe, V.int ((i + 1 : Nat) : Int))]) := by
            unfold mkD
            rw [List.map_append] <;> rfl
          have hf7 : (upd H6 p (.dT (mkD (ps3 ++ [(callIn wb h pe, V.int ((i + 1 : Nat) : Int))])))) f = some (.lst ys3) := by
            rw [upd_ne hfp]
            exact rk6.hf
          rw [e7]
          refine ⟨.ref f, rfl, .inl ⟨rfl, ys3, sq_of hf7⟩, .ref bt, rfl, f, ys3, .ref bt, rfl, rfl, hf7, sz_lt (by omega), ?_⟩
          have t7 : Tx H6 (upd (upd H6 p (.dT (mkD (ps3 ++ [(callIn wb h pe, V.int ((i + 1 : Nat) : Int))])))) f (.lst (ys3 ++ [.ref bt]))) := ((Ex.tx (Ex.refl H6)).mut rk6.hp (fun _ z => by cases z)).mut hf7 (fun _ z => by cases z)
          refine ⟨(((kp2.trans (Kp.of_ex e5)).trans (Kp.of_ex e6)).mut (.inl rfl)).mut (.inr rfl), ⟨ps3 ++ [(callIn wb h pe, V.int ((i + 1 : Nat) : Int))], ys3 ++ [.ref bt], F3 ++ [callIn wb h pe], rk6.np, rk6.nf, Ex.mut (Ex.mut rk6.ex rk6.np) rk6.nf, ?_, ?_, ?_, by simp, upd_same, Paired.snoc' (Paired.st st_row t7 rk6.py) ⟨bt, rfl, t7 _ _ hbt6⟩, ?_, by simp; exact hle⟩, _, _, rfl⟩
          · rw [upd_ne (fun z => hfp z.symm), upd_same]
          · rw [List.map_append, List.nodup_append]
            refine ⟨rk6.nd, by simp, fun a ha c hc => ?_⟩
            have : c = callIn wb h pe := by simpa using hc
            rw [this]
            exact fun z => hn' (z ▸ ha)
          · intro y hy
            rcases List.mem_append.mp hy with hy | hy
            · exact rk6.re y hy
            · rw [List.mem_singleton.mp hy]
              exact hre2
          · intro y hy
            rcases List.mem_append.mp hy with hy | hy
            · exact rk6.fr y hy
            · rw [List.mem_singleton.mp hy]
              have := mover_less hmv
              exact ⟨hre2, by omega⟩
        · rintro Ht σ'' H'' et ⟨kp2, rk, w7, w8, rfl⟩
          exact ⟨(kp.trans (Kp.of_ex et)).trans kp2, rk, _, _, _, rfl⟩
      · rintro Hs σ' H' es ⟨kp, ⟨ps2, ys2, F2, rj⟩, z6, z7, z8, rfl⟩
        refine s_asg (ev_var rfl) fun H5 e5 => ⟨s.length + 2 - (i + 1), by omega, i + 1, f, _, _, _, _, _, _, _, rfl, rfl, rj.up e5⟩
    · have ri2 := ri.up e2
      refine s_ret (ev_var rfl) fun H3 e3 => ?_
      have ri3 := ri2.up e3
      exact q p H3 ps np ri3.ex ri3.hp ri3.ne ri3.re (ri3.few hl7)
def spReached : Sp := fun vs H Q _ => ∃ v u wb s, vs = [v, u] ∧ rTup rRow H v wb ∧ rRow H u s ∧ WebOk wb ∧ SetOk wb s ∧ ∀ q H2 T, H q = none → Ex H H2 → rLst rRow H2 (.ref q) T → T ≠ [] → (∀ r ∈ T, Reach wb s r) → T.length ≤ 128 → Q (.ref q) H2
theorem keys_rows {H : Hp} : ∀ {ps : List (Rw × V)} {bs : List Addr}, IsKeys H (mkD ps) bs → Paired (rRow H) (bs.map V.ref) (ps.map (·.1))
  | [], _, h => by
    cases h
    exact .nil
  | x :: ps, _, h => by
    cases h with
    | cons r t => exact .cons ⟨_, rfl, by rw [r, key_kv]⟩ (keys_rows t)
theorem k_reached (D : Dn K mg "reached" sReached ["web", "standing"]) (T : Bt mg) (c_need_state : Cal P w K mg base 4 "need_state" spNeedState []) (c_reached_from : Cal P w K mg base 2 "reached_from" spReachedFrom []) : Cal P w K mg base 5 "reached" spReached [] := by
  refine mkCal D scReached (fun vs H Q E h => ?_) (fun f cdv A outer s H vs Q E hr h => ?_)
  · obtain ⟨v, u, wb, s, rfl, _⟩ := h
    rfl
  · obtain ⟨v, u, wb, s, rfl, hw, hs, wok, ok, q⟩ := h
    refine ⟨_, (pss_cons (ps_expr (pe_c c_need_state hr (by decide) (by rfl) (pa_cons (pv 0) (pa_cons (pv 1) pa_nil))))
  (pss_one (ps_ret (pe_callB (sortRowsK K hr.units) (by rfl) T.n_sorted (by decide +kernel) (pa_cons (pe_callTy (call_list_dT rfl) (by rfl) T.n_list (by decide +kernel) (pa_cons (pe_c c_reached_from hr (by decide) (by rfl) (pa_cons (pv 0) (pa_cons (pv 1) pa_nil))) pa_nil)) pa_nil))))), ?_⟩
    refine q_drop (v := .non) (ev_call (ea_cons (ev_var rfl) (ea_cons (ev_var rfl) ea_nil)) fun H2 e2 Q2 q2 E2 => ⟨v, u, wb, s, rfl, st_tup st_row _ _ _ _ (Ex.tx e2) hw, st_row _ _ _ _ (Ex.tx e2) hs, wok, ok, q2⟩) fun H1 e1 => ?_
    refine s_retN (P := fun x H2 => ∃ T, rLst rRow H2 x T ∧ T ≠ [] ∧ (∀ r ∈ T, Reach wb s r) ∧ T.length ≤ 128) ?_ fun p H2 np e2 ⟨T, h1, h2, h3, h4⟩ => q p H2 T (fresh_back e1 np) (e1.trans e2) h1 h2 h3 h4
    intro H2 e2 Q2 q2
    refine ⟨v, rfl, u, rfl, v, u, wb, s, rfl, st_tup st_row _ _ _ _ (Ex.tx (e1.trans e2)) hw, st_row _ _ _ _ (Ex.tx (e1.trans e2)) hs, wok, ok, fun p H3 ps np e3 hp hne hre hle => ?_⟩
    refine ⟨p, _, rfl, .inl hp, fun l bs nl hk => ?_⟩
    have pk := keys_rows (H := upd H3 l (.lst (bs.map V.ref))) (ps := ps) (bs := bs) (Paired.mapP hk fun x y r => Ex.new nl _ _ r)
    have e4 : Ex H3 (upd H3 l (.lst (bs.map V.ref))) := Ex.new nl
    have nl2 := fresh_back e3 nl
    refine evn_sortRows (K := K) (ta := tPut l) (σ := []) (H := upd H3 l (.lst (bs.map V.ref))) (evd_of (ev_put l) fun H5 e5 => ⟨l, _, rfl, e5 _ _ upd_same, Paired.st st_row (Ex.tx e5) pk⟩) _ (Ex.refl _) _ fun r H6 nr e6 ⟨l2, hp2, hl2⟩ => q2 r H6 (fresh_back (e3.trans e4) nr) ((e3.trans e4).trans e6) ⟨l2, hl2, ?_, ?_, ?_⟩
    · intro z
      rw [z] at hp2
      have := hp2.length_eq
      rw [List.length_map] at this
      exact hne (List.eq_nil_of_length_eq_zero this)
    · intro r hr
      obtain ⟨x, hx, rfl⟩ := List.mem_map.mp (hp2.mem_iff.mpr hr)
      exact hre x hx
    · rw [← hp2.length_eq, List.length_map]
      exact hle
end
end K87
set_option Elab.async false
set_option linter.all false
set_option maxRecDepth 100000
set_option maxHeartbeats 4000000
namespace K87
open PySem L2 Evl PyProof.Rows
open C8 (Cal pe_c)
theorem PrOk.wide {wb : Wb} {pr : List Int} {lo hi lo2 hi2 : Int} (h : PrOk wb pr lo hi) (h1 : lo2 ≤ lo) (h2 : hi ≤ hi2) : PrOk wb pr lo2 hi2 := ⟨h.len, fun x hx => by have := h.rng x hx; omega⟩
theorem PrOk.get {wb : Wb} {pr : List Int} {lo hi : Int} (h : PrOk wb pr lo hi) {p : Int} (h0 : 0 ≤ p) (h1 : p < (wb.length : Int)) : pr[p.toNat]? = some (pr.getD p.toNat 0) := by
  have hl : p.toNat < pr.length := by rw [h.len]; omega
  rw [List.getD_eq_getElem?_getD, List.getElem?_eq_getElem hl] <;> rfl
section
variable {K : PySem.W.Frag} {σ : L2.St} {H H' : Hp} {ta tb te : TE} {α β : Type} {R : Rep α} {ls : List α}
/-- the sum of the prices of a row -/
theorem ev_wts {wi : TI} {i j : Nat} {vs : List Nat} {row : Rw} {wb : Wb} {pr : List Int} {lo hi : Int} {x : V} (hs : Src wi σ H M0 rI row) (hp : PrOk wb pr lo hi) (rng : ∀ p ∈ row, 0 ≤ p ∧ p < (wb.length : Int)) (h7 : row.length ≤ 7) (hx : rRow H x pr)
    (hw : ∀ x, wipe ((wipe σ vs).set j (some x)) vs = wipe σ vs) (ha : ∀ y, ((wipe σ vs).set j (some y))[i]? = some (some x)) (hb : ∀ y, ((wipe σ vs).set j (some y))[j]? = some (some y)) :
    Ev (tCB (rSum K) (tCons (tLc wi (gName j) tYes (tOp (rIxT K) (tVar i) (tVar j)) vs) tNil)) σ H (.int (wt pr row)) := by
  refine ev_sum (ns := row.map fun p => pr.getD p.toNat 0) (evn_lc0 (g := fun p => pr.getD p.toNat 0) hs st_I (by omega) hw fun H1 y p e1 hm r => ?_).d
  obtain rfl : y = .int p := r
  have rp := rng p hm
  have e : ((p.toNat : Nat) : Int) = p := by omega
  exact evd_ixT (l := pr) st_I (evd_of (ev_var (ha _)) fun H2 e2 => row_tup (st_row _ _ _ _ (Ex.tx (e1.trans e2)) hx)) (by rw [e]; exact ev_var (hb _)) (hp.get rp.1 rp.2)
/-- for x in ..: found.append(e) -/
theorem s_acc0 {wi : TI} {j k : Nat} {p : Addr} {D : Ends} {R2 : Rep β} {g : α → β} (hs : Src wi σ H (fun b => b = p) R ls) (s2 : Stab R2) (hz : ls.length ≤ 40000) (hp : H p = some (.lst []))
    (hv : ∀ x, (σ.set j x)[k]? = some (some (.ref p)))
    (he : ∀ H1 x l, Kp (fun b => b = p) H H1 → l ∈ ls → R H1 x l → EvD te (σ.set j (some x)) H1 fun y H2 => R2 H2 y (g l))
    (hd : ∀ y H', Kp (fun b => b = p) H H' → (∃ ys, H' p = some (.lst ys) ∧ Paired (R2 H') ys (ls.map g)) → (σ' : L2.St) → σ' = σ ∨ σ' = σ.set j y → D.nx σ' H') :
    tFor wi (gName j) (tDrop (tBM K "list" rAppend (tVar k) (tCons te tNil))) D σ H := by
  refine s_for hs (fun H1 i σ' H' => (σ' = σ ∨ ∃ y, σ' = σ.set j y) ∧ Kp (fun b => b = p) H1 H' ∧ ∃ ys, H' p = some (.lst ys) ∧ Paired (R2 H') ys ((ls.take i).map g) ∧ ys.length ≤ i) (fun H1 e => ⟨.inl rfl, Kp.refl _, [], e _ _ hp, .nil, Nat.le_refl _⟩) (fun _ _ _ _ h => h.2.1) ?_ ?_
  · rintro H1 i x l σ' H' e1 hl rl ⟨hσ, kp, ys, hy, py, hlen⟩
    have hm : l ∈ ls := List.mem_of_getElem? hl
    have et : ls.take (i + 1) = ls.take i ++ [l] := by rw [List.take_add_one, hl] <;> rfl
    have hi : i < ls.length := (List.getElem?_eq_some_iff.mp hl).1
    have es : σ'.set j (some x) = σ.set j (some x) := by
      rcases hσ with rfl | ⟨y, rfl⟩
      · rfl
      · rw [List.set_set]
    show tDrop _ _ (σ'.set j (some x)) H'
    rw [es]
    have kp' : Kp (fun b => b = p) H H' := (Kp.of_ex e1).trans kp
    refine ⟨.ref p, hv _, .inl ⟨rfl, ys, sq_of hy⟩, ?_⟩
    refine he H' x l kp' hm rl H' (Ex.refl _) _ fun y H3 e3 ry => ⟨p, ys, y, rfl, rfl, e3 _ _ hy, sz_lt (by omega), .inr ⟨_, rfl⟩, (kp.trans (Kp.of_ex e3)).mut rfl, ys ++ [y], upd_same, ?_, by rw [List.length_append]; simp; omega⟩
    rw [et, List.map_append]
    have tx : Tx H' (upd H3 p (.lst (ys ++ [y]))) := (Ex.tx e3).mut (e3 _ _ hy) (fun _ z => by cases z)
    have tx4 : Tx H3 (upd H3 p (.lst (ys ++ [y]))) := (Ex.tx (Ex.refl H3)).mut (e3 _ _ hy) (fun _ z => by cases z)
    exact Paired.snoc' (Paired.st s2 tx py) (s2 _ _ _ _ tx4 ry)
  · rintro H1 σ' H' e1 ⟨hσ, kp, ys, hy, py, _⟩
    rw [List.take_length] at py
    rcases hσ with rfl | ⟨y, rfl⟩
    · exact hd none H' ((Kp.of_ex e1).trans kp) ⟨ys, hy, py⟩ _ (.inl rfl)
    · exact hd y H' ((Kp.of_ex e1).trans kp) ⟨ys, hy, py⟩ _ (.inr rfl)
end
section
variable {P : Program} {w : World} {K : PySem.W.Frag} {mg : Str → Option Value} {base : Heap}
def spNeedWeights : Sp := fun vs H Q _ => ∃ v x wb pr, vs = [v, x] ∧ rTup rRow H v wb ∧ rRow H x pr ∧ PrOk wb pr 0 99 ∧ wb.length ≤ 7 ∧ ∀ H2, Ex H H2 → Q .non H2
theorem k_need_weights (D : Dn K mg "need_weights" sNeedWeights ["web", "weights"]) (T : Bt mg) (c_is_list : Cal P w K mg base 1 "is_list" spIsList []) (c_is_in : Cal P w K mg base 2 "is_in" spIn []) : Cal P w K mg base 3 "need_weights" spNeedWeights [] := by
  refine mkCal D scNeedWeights (fun vs H Q E h => ?_) (fun f cdv A outer s H vs Q E hr h => ?_)
  · obtain ⟨v, x, wb, pr, rfl, _⟩ := h
    rfl
  · obtain ⟨v, x, wb, pr, rfl, hw, hx, ok, h7, q⟩ := h
    refine ⟨_, (pss_cons (ps_if (pt_not (pt_val (pe_c c_is_list hr (by decide) (by rfl) (pa_cons (pv 1) (pa_cons (pe_callB (lenK K) (by rfl) T.n_len (by decide +kernel) (pa_cons (pv 0) pa_nil)) (pa_cons (pe_callB (lenK K) (by rfl) T.n_len (by decide +kernel) (pa_cons (pv 0) pa_nil)) pa_nil)))))) (pss_one ps_never) pss_nil)
  (pss_one (ps_for PassesOwn.never rfl (pi_enumT (by rfl) T.n_enumerate (pa_cons (pv 1) pa_nil)) (pg_tup rfl (pgs_cons (pg_name (i := 2) scNeedWeights.nd rfl (by first | exact Or.inl rfl | exact Or.inr rfl)) (pgs_cons (pg_name (i := 3) scNeedWeights.nd rfl (by first | exact Or.inl rfl | exact Or.inr rfl)) pgs_nil)))
  (pss_one (ps_if (pt_not (pt_val (pe_c c_is_in hr (by decide) (by rfl) (pa_cons (pv 3) (pa_cons pe_int (pa_cons pe_int pa_nil)))))) (pss_one ps_never) pss_nil))))), ?_⟩
    obtain ⟨a, xs, rfl, ha, hl⟩ := len_web hw
    obtain ⟨b, rfl, hb⟩ := id hx
    have hlen := ok.len
    refine q_never (et_is (et_not (et_B (ev_call (z := .bl true) (ea_cons (ev_var rfl) (ea_cons (ev_lenT (ev_var rfl) ha) (ea_cons (ev_lenT (ev_var rfl) ha) ea_nil))) fun H2 e2 Q2 q2 E2 => ⟨b, pr.map V.int, xs.length, xs.length, rfl, e2 _ _ hb, ?_⟩))) rfl) fun H1 e1 => ?_
    · have e3 : (decide ((xs.length : Int) ≤ ((pr.map V.int).length : Int)) && decide (((pr.map V.int).length : Int) ≤ (xs.length : Int))) = true := by
        rw [List.length_map, Bool.and_eq_true]
        exact ⟨decide_eq_true (by omega), decide_eq_true (by omega)⟩
      rw [e3]
      exact q2 H2 (Ex.refl _)
    have hx1 := st_row _ _ _ _ (Ex.tx e1) hx
    refine s_forE st_I (ls := pr) (evd_var (st_tup st_I) rfl (row_tup hx1)) (fun Hs i σ' H' => Ex Hs H' ∧ ∃ y2 y3, σ' = [some (.ref a), some (.ref b), y2, y3]) (fun Hs e => ⟨Ex.refl _, none, none, rfl⟩) (fun _ _ _ _ h => h.1) ?_ ?_
    · rintro Hs i y l σ' H' H'' es hl1 ⟨ex, y2, y3, rfl⟩ e3 rl
      obtain rfl : y = .int l := rl
      have rg := ok.rng l (List.mem_of_getElem? hl1)
      refine s_never (et_is (et_not (et_B (ev_call (z := .bl true) (ea_cons (ev_var rfl) (ea_cons ev_c (ea_cons ev_c ea_nil))) fun H4 e4 Q4 q4 E4 => ⟨l, 0, 99, rfl, ?_⟩))) rfl) fun H4 e4 => ⟨(ex.trans e3).trans e4, _, _, rfl⟩
      have e5 : (decide ((0 : Int) ≤ l) && decide (l ≤ 99)) = true := by
        rw [Bool.and_eq_true]
        exact ⟨decide_eq_true (by omega), decide_eq_true (by omega)⟩
      rw [e5]
      exact q4 H4 (Ex.refl _)
    · rintro Hs σ' H' es ⟨ex, y2, y3, rfl⟩
      exact q H' ((e1.trans es).trans ex)
/-! ### worth -/
def spWorth : Sp := fun vs H Q _ => ∃ v u x wb s pr, vs = [v, u, x] ∧ rTup rRow H v wb ∧ rRow H u s ∧ rRow H x pr ∧ WebOk wb ∧ SetOk wb s ∧ PrOk wb pr 0 99 ∧ ∀ H2, Ex H H2 → Q (.int (wt pr s)) H2
theorem k_worth (D : Dn K mg "worth" sWorth ["web", "standing", "weights"]) (T : Bt mg) (c_need_state : Cal P w K mg base 4 "need_state" spNeedState []) (c_need_weights : Cal P w K mg base 3 "need_weights" spNeedWeights []) : Cal P w K mg base 5 "worth" spWorth [] := by
  refine mkCal D scWorth (fun vs H Q E h => ?_) (fun f cdv A outer s H vs Q E hr h => ?_)
  · obtain ⟨v, u, x, wb, s, pr, rfl, _⟩ := h
    rfl
  · obtain ⟨v, u, x, wb, s, pr, rfl, hw, hs, hx, wok, ok, pok, q⟩ := h
    refine ⟨_, (pss_cons (ps_expr (pe_c c_need_state hr (by decide) (by rfl) (pa_cons (pv 0) (pa_cons (pv 1) pa_nil))))
  (pss_cons (ps_expr (pe_c c_need_weights hr (by decide) (by rfl) (pa_cons (pv 0) (pa_cons (pv 2) pa_nil))))
  (pss_one (ps_ret (pe_callB (sumK K rfl) (by rfl) T.n_sum (by decide +kernel) (pa_cons (pe_lc (own := [("person", 3)]) rfl scWorth.nd (pi_tupK K (pv 1)) (blkOk_by (own := [("person", 3)]) (by kernel_rfl)) (fun _ _ _ _ _ => (pg_name (i := 3) scWorth.nd rfl (by first | exact Or.inl rfl | exact Or.inr rfl))) (fun _ _ _ _ _ => pts_nil) (fun _ _ _ _ _ => (pe_ix (ixTK K) (pv 2) (pv 3) (fun _ _ => rfl)))) pa_nil)))))), ?_⟩
    refine q_drop (v := .non) (ev_call (ea_cons (ev_var rfl) (ea_cons (ev_var rfl) ea_nil)) fun H2 e2 Q2 q2 E2 => ⟨v, u, wb, s, rfl, st_tup st_row _ _ _ _ (Ex.tx e2) hw, st_row _ _ _ _ (Ex.tx e2) hs, wok, ok, q2⟩) fun H1 e1 => ?_
    refine q_drop (v := .non) (ev_call (ea_cons (ev_var rfl) (ea_cons (ev_var rfl) ea_nil)) fun H2 e2 Q2 q2 E2 => ⟨v, x, wb, pr, rfl, st_tup st_row _ _ _ _ (Ex.tx (e1.trans e2)) hw, st_row _ _ _ _ (Ex.tx (e1.trans e2)) hx, pok, wok.le, q2⟩) fun H2 e2 => ?_
    have ex := e1.trans e2
    exact s_ret (ev_wts (src_row mok0 (evd_var st_row rfl (st_row _ _ _ _ (Ex.tx ex) hs))) pok ok.rng (set_len wok ok) (st_row _ _ _ _ (Ex.tx ex) hx) (fun _ => rfl) (fun _ => rfl) (fun _ => rfl)) fun H3 e3 => q H3 (ex.trans e3)
/-! ### cheapest_telling -/
def spCheap : Sp := fun vs H Q _ => ∃ v u g x wb s go pr, vs = [v, u, g, x] ∧ Args3 H v u g wb s go ∧ fits wb s go = true ∧ rRow H x pr ∧ PrOk wb pr 0 99 ∧ ∀ y H2 d, Ex H H2 → rPair H2 y d → Best wb s go pr d.1 d.2 → Q y H2
theorem k_cheapest_telling (D : Dn K mg "cheapest_telling" sCheapestTelling ["web", "standing", "goal", "weights"]) (T : Bt mg) (c_need_two : Cal P w K mg base 5 "need_two" spNeedTwo []) (c_need_weights : Cal P w K mg base 3 "need_weights" spNeedWeights []) (c_need_way : Cal P w K mg base 6 "need_way" spNeedWay []) (c_telling_in : Cal P w K mg base 3 "telling_in" spTelling0 []) : Cal P w K mg base 7 "cheapest_telling" spCheap [] := by
  refine mkCal D scCheapestTelling (fun vs H Q E h => ?_) (fun f cdv A outer s H vs Q E hr h => ?_)
  · obtain ⟨v, u, g, x, wb, s, go, pr, rfl, _⟩ := h
    rfl
  · obtain ⟨v, u, g, x, wb, s, go, pr, rfl, a, hf, hx, pok, q⟩ := h
    refine ⟨_, (pss_cons (ps_expr (pe_c c_need_two hr (by decide) (by rfl) (pa_cons (pv 0) (pa_cons (pv 1) (pa_cons (pv 2) pa_nil)))))
  (pss_cons (ps_expr (pe_c c_need_weights hr (by decide) (by rfl) (pa_cons (pv 0) (pa_cons (pv 3) pa_nil))))
  (pss_cons (ps_expr (pe_c c_need_way hr (by decide) (by rfl) (pa_cons (pv 0) (pa_cons (pv 1) (pa_cons (pv 2) pa_nil)))))
  (pss_cons (ps_set (i := 4) scCheapestTelling.nd rfl (Or.inl rfl) (pe_lst pa_nil))
  (pss_cons (ps_for PassesOwn.never rfl (pi_listK K (pe_c c_telling_in hr (by decide) (by rfl) (pa_cons (pv 0) (pa_cons (pv 1) (pa_cons (pv 2) pa_nil))))) (pg_name (i := 5) scCheapestTelling.nd rfl (by first | exact Or.inl rfl | exact Or.inr rfl))
  (pss_one (ps_expr (pe_bm PySem.F.plainAttrs_list PySem.F.slot_list_append PySem.F.type_list_append mt_append (pv 4) (pa_cons (pe_tup (pa_cons (pe_callB (sumK K rfl) (by rfl) T.n_sum (by decide +kernel) (pa_cons (pe_lc (own := [("person", 6)]) rfl scCheapestTelling.nd (pi_tupK K (pv 5)) (blkOk_by (own := [("person", 6)]) (by kernel_rfl)) (fun _ _ _ _ _ => (pg_name (i := 6) scCheapestTelling.nd rfl (by first | exact Or.inl rfl | exact Or.inr rfl))) (fun _ _ _ _ _ => pts_nil) (fun _ _ _ _ _ => (pe_ix (ixTK K) (pv 3) (pv 6) (fun _ _ => rfl)))) pa_nil)) (pa_cons (pv 5) pa_nil))) pa_nil)))))
  (pss_one (ps_ret (pe_callB (minPK K rfl hr.units) (by rfl) T.n_min (by decide +kernel) (pa_cons (pv 4) pa_nil))))))))), ?_⟩
    refine q_drop (v := .non) (ev_call (ea_cons (ev_var rfl) (ea_cons (ev_var rfl) (ea_cons (ev_var rfl) ea_nil))) fun H2 e2 Q2 q2 E2 => ⟨v, u, g, wb, s, go, rfl, a.tx (Ex.tx e2), q2⟩) fun H1 e1 => ?_
    refine q_drop (v := .non) (ev_call (ea_cons (ev_var rfl) (ea_cons (ev_var rfl) ea_nil)) fun H2 e2 Q2 q2 E2 => ⟨v, x, wb, pr, rfl, (a.tx (Ex.tx (e1.trans e2))).web, st_row _ _ _ _ (Ex.tx (e1.trans e2)) hx, pok, a.wok.le, q2⟩) fun H2 e2 => ?_
    have e12 := e1.trans e2
    refine q_drop (v := .non) (ev_call (ea_cons (ev_var rfl) (ea_cons (ev_var rfl) (ea_cons (ev_var rfl) ea_nil))) fun H3 e3 Q2 q2 E2 => ⟨v, u, g, wb, s, go, rfl, a.tx (Ex.tx (e12.trans e3)), hf, q2⟩) fun H3 e3 => ?_
    have e13 := e12.trans e3
    refine q_newL fun p np => ?_
    have np0 := fresh_back e13 np
    have e4 : Ex H (upd H3 p (.lst [])) := e13.trans (Ex.new np)
    have hp4 : (upd H3 p (.lst [])) p = some (.lst []) := upd_same
    generalize upd H3 p (.lst []) = H4 at e4 hp4
    refine s_forX (Pr := Tells wb s go) (R := rRow) (evn_call (P := fun x H2 => ∃ T, Tells wb s go T ∧ rLst rRow H2 x T) (ea_cons (ev_var rfl) (ea_cons (ev_var rfl) (ea_cons (ev_var rfl) ea_nil))) fun H5 e5 Q2 q2 => ⟨v, u, g, wb, s, go, rfl, a.tx (Ex.tx (e4.trans e5)), fun p H6 T np e6 hT hp => q2 p H6 np e6 ⟨T, hT, hp⟩⟩) fun r T H5 nr e5 hT hl => ?_
    have hrp : ¬ r = p := fun z => by rw [z, hp4] at nr; cases nr
    have hp5 := e5 _ _ hp4
    have e05 := e4.trans e5
    refine s_acc0 (R2 := rPair) (g := fun r => (wt pr r, r)) (src_put st_row (mok_new hp5) hl hrp) st_pair (by have := hT.2; omega) hp5 (fun _ => rfl) (fun H6 y row k6 hm ry => ?_) (fun y H6 k6 ⟨ys, hy, py⟩ σ' hσ => ?_)
    · have ht := (hT.1 row).mp hm
      have hsub := tell_sub ht
      have oks := a.sok.sub hsub
      have hx6 : rRow H6 x pr := st_row _ _ _ _ ((Ex.tx e05).trans (k6.tx (mok_new hp5))) hx
      intro H7 e7 Q7 q7
      refine ev_wts (σ := [some v, some u, some g, some x, some (.ref p), some y, none]) (H := H7) (src_row mok0 (evd_var st_row rfl (st_row _ _ _ _ (Ex.tx e7) ry))) pok oks.rng (set_len a.wok oks) (st_row _ _ _ _ (Ex.tx e7) hx6) (fun _ => rfl) (fun _ => rfl) (fun _ => rfl) H7 (Ex.refl _) _ fun H8 e8 => ?_
      obtain ⟨b, rfl, hb⟩ := ry
      refine ⟨.ref b, rfl, by show 2 ≤ sizeLine; decide, fun t nt => q7 _ _ (e8.trans (Ex.new nt)) ⟨t, b, rfl, upd_same, (Ex.new nt) _ _ (e8 _ _ (e7 _ _ hb))⟩⟩
    · have hv : σ'[4]? = some (some (.ref p)) := by rcases hσ with rfl | rfl <;> rfl
      have hne := Tells.ne a.wok a.sok (a.sub hf) hf hT.1
      refine s_retD (evd_minP (ds := T.map fun r => (wt pr r, r)) (fun z => hne (List.map_eq_nil_iff.mp z)) (evd_of (ev_var hv) fun H7 e7 => ⟨p, ys, rfl, e7 _ _ hy, Paired.st st_pair (Ex.tx e7) py⟩)) fun z H7 e7 ⟨d, hd, rd, hmin⟩ => ?_
      refine q z H7 d ((ex_of_kp np0 e05 k6).trans e7) rd ?_
      obtain ⟨r0, hr0, rfl⟩ := List.mem_map.mp hd
      exact ⟨(hT.1 r0).mp hr0, rfl, fun r1 hr1 => hmin (wt pr r1, r1) (List.mem_map.mpr ⟨r1, (hT.1 r1).mpr hr1, rfl⟩)⟩
end
end K87
set_option Elab.async false
set_option linter.all false
set_option maxRecDepth 100000
set_option maxHeartbeats 4000000
namespace K87
open PySem L2 Evl PyProof.Rows
open C8 (Cal pe_c)
section
variable {P : Program} {w : World} {K : PySem.W.Frag} {mg : Str → Option Value} {base : Heap}
theorem q_two {σ : L2.St} {H : Hp} {te : TE} {i j n : Nat} {tz : TS} {D : Ends} {Pz : V → Hp → Prop} (h : EvN te σ H Pz) (hn : n = 2) (k : ∀ sa p H2 H3, H sa = none → Ex H H2 → H2 p = none → Ex H2 H3 → H3 p = some (.lst []) → ¬ sa = p → Pz (.ref sa) H2 → tz D ((σ.set i (some (.ref sa))).set j (some (.ref p))) H3) (hl : ∀ sa H2, Pz (.ref sa) H2 → ∃ o, H2 sa = some o) :
    tSeq (tAsg (tTup (tCons te (tCons (tLst tNil) tNil))) (gTup K n (gCons (gName i) (gCons (gName j) gNil)))) tz D σ H :=
  h H (Ex.refl _) _ fun sa H2 ns e2 hp => ⟨Nat.zero_le _, fun p np => ⟨by show 2 ≤ sizeLine; decide, fun t nt => ⟨t, [.ref sa, .ref p], rfl, st_of upd_same, hn.symm, .ref sa, [.ref p], rfl, .ref p, [], rfl, rfl, k sa p H2 _ ns e2 np ((Ex.new np).trans (Ex.new nt)) ((Ex.new nt) _ _ upd_same) (fun z => by
    obtain ⟨o, ho⟩ := hl sa H2 hp
    rw [z, np] at ho
    cases ho) hp⟩⟩⟩
/-! ### cheapest_end -/
def rEndC (wb : Wb) (s : Rw) (pr : List Int) : Rep Rw := fun H v e => ∃ c row, rPair H v (c, e) ∧ Best wb s e pr c row
theorem st_endC {wb : Wb} {s : Rw} {pr : List Int} : Stab (rEndC wb s pr) := fun H H' v e t ⟨c, row, h, b⟩ => ⟨c, row, st_pair _ _ _ _ t h, b⟩
theorem ends_ds {wb : Wb} {s : Rw} {pr : List Int} {H : Hp} : ∀ {ys : List V} {T : List Rw}, Paired (rEndC wb s pr H) ys T → ∃ ds : List (Int × List Int), Paired (rPair H) ys ds ∧ ds.map (·.2) = T ∧ ∀ d ∈ ds, ∃ row, Best wb s d.2 pr d.1 row
  | _, _, .nil => ⟨[], .nil, rfl, fun _ h => by cases h⟩
  | _, _, .cons ⟨c, row, h, b⟩ t => by
    obtain ⟨ds, h1, h2, h3⟩ := ends_ds t
    refine ⟨(c, _) :: ds, .cons h h1, by rw [List.map_cons, h2], fun d hd => ?_⟩
    rcases List.mem_cons.mp hd with rfl | hd
    · exact ⟨row, b⟩
    · exact h3 d hd
def spCheapEnd : Sp := fun vs H Q _ => ∃ v u x wb s pr, vs = [v, u, x] ∧ rTup rRow H v wb ∧ rRow H u s ∧ rRow H x pr ∧ WebOk wb ∧ SetOk wb s ∧ PrOk wb pr 0 99 ∧
  ∀ y H2 d, Ex H H2 → rPair H2 y d → IsEnd wb s d.2 → (∃ row, Best wb s d.2 pr d.1 row) → (∀ e c row, IsEnd wb s e → Best wb s e pr c row → d.1 ≤ c) → Q y H2
theorem k_cheapest_end (D : Dn K mg "cheapest_end" sCheapestEnd ["web", "standing", "weights"]) (T : Bt mg) (c_need_state : Cal P w K mg base 4 "need_state" spNeedState []) (c_need_weights : Cal P w K mg base 3 "need_weights" spNeedWeights []) (c_ends_in : Cal P w K mg base 3 "ends_in" spEnds []) (c_telling_in : Cal P w K mg base 3 "telling_in" spTelling0 []) : Cal P w K mg base 5 "cheapest_end" spCheapEnd [] := by
  refine mkCal D scCheapestEnd (fun vs H Q E h => ?_) (fun f cdv A outer s H vs Q E hr h => ?_)
  · obtain ⟨v, u, x, wb, s, pr, rfl, _⟩ := h
    rfl
  · obtain ⟨v, u, x, wb, s, pr, rfl, hw, hs, hx, wok, ok, pok, q⟩ := h
    refine ⟨_, (pss_cons (ps_expr (pe_c c_need_state hr (by decide) (by rfl) (pa_cons (pv 0) (pa_cons (pv 1) pa_nil))))
  (pss_cons (ps_expr (pe_c c_need_weights hr (by decide) (by rfl) (pa_cons (pv 0) (pa_cons (pv 2) pa_nil))))
  (pss_cons (ps_set (i := 3) scCheapestEnd.nd rfl (Or.inl rfl) (pe_lst pa_nil))
  (pss_cons (ps_for PassesOwn.never rfl (pi_listK K (pe_c c_ends_in hr (by decide) (by rfl) (pa_cons (pv 0) (pa_cons (pv 1) pa_nil)))) (pg_name (i := 4) scCheapestEnd.nd rfl (by first | exact Or.inl rfl | exact Or.inr rfl))
  (pss_cons (ps_set (i := 5) scCheapestEnd.nd rfl (Or.inl rfl) (pe_c c_telling_in hr (by decide) (by rfl) (pa_cons (pv 0) (pa_cons (pv 1) (pa_cons (pv 4) pa_nil)))))
  (pss_one (ps_expr (pe_bm PySem.F.plainAttrs_list PySem.F.slot_list_append PySem.F.type_list_append mt_append (pv 3) (pa_cons (pe_tup (pa_cons (pe_callB (minK K rfl) (by rfl) T.n_min (by decide +kernel) (pa_cons (pe_lc (own := [("row", 6)]) rfl scCheapestEnd.nd (pi_listK K (pv 5)) (blkOk_by (own := [("row", 6)]) (by kernel_rfl)) (fun _ _ _ _ _ => (pg_name (i := 6) scCheapestEnd.nd rfl (by first | exact Or.inl rfl | exact Or.inr rfl))) (fun _ _ _ _ _ => pts_nil) (fun _ _ _ _ _ => (pe_callB (sumK K rfl) (by rfl) T.n_sum (by decide +kernel) (pa_cons (pe_lc (own := [("person", 7)]) rfl scCheapestEnd.nd (pi_tupK K (pv 6)) (blkOk_by (own := [("person", 7)]) (by kernel_rfl)) (fun _ _ _ _ _ => (pg_name (i := 7) scCheapestEnd.nd rfl (by first | exact Or.inl rfl | exact Or.inr rfl))) (fun _ _ _ _ _ => pts_nil) (fun _ _ _ _ _ => (pe_ix (ixTK K) (pv 2) (pv 7) (fun _ _ => rfl)))) pa_nil)))) pa_nil)) (pa_cons (pv 4) pa_nil))) pa_nil))))))
  (pss_one (ps_ret (pe_callB (minPK K rfl hr.units) (by rfl) T.n_min (by decide +kernel) (pa_cons (pv 3) pa_nil)))))))), ?_⟩
    refine q_drop (v := .non) (ev_call (ea_cons (ev_var rfl) (ea_cons (ev_var rfl) ea_nil)) fun H2 e2 Q2 q2 E2 => ⟨v, u, wb, s, rfl, st_tup st_row _ _ _ _ (Ex.tx e2) hw, st_row _ _ _ _ (Ex.tx e2) hs, wok, ok, q2⟩) fun H1 e1 => ?_
    refine q_drop (v := .non) (ev_call (ea_cons (ev_var rfl) (ea_cons (ev_var rfl) ea_nil)) fun H2 e2 Q2 q2 E2 => ⟨v, x, wb, pr, rfl, st_tup st_row _ _ _ _ (Ex.tx (e1.trans e2)) hw, st_row _ _ _ _ (Ex.tx (e1.trans e2)) hx, pok, wok.le, q2⟩) fun H2 e2 => ?_
    have e12 := e1.trans e2
    refine q_newL fun p np => ?_
    have np0 := fresh_back e12 np
    have e4 : Ex H (upd H2 p (.lst [])) := e12.trans (Ex.new np)
    have hp4 : (upd H2 p (.lst [])) p = some (.lst []) := upd_same
    generalize upd H2 p (.lst []) = H4 at e4 hp4
    refine s_forX (Pr := EndsL wb s) (R := rRow) (evn_call (P := fun x H2 => ∃ T, EndsL wb s T ∧ rLst rRow H2 x T) (ea_cons (ev_var rfl) (ea_cons (ev_var rfl) ea_nil)) fun H5 e5 Q2 q2 => ⟨v, u, wb, s, rfl, st_tup st_row _ _ _ _ (Ex.tx (e4.trans e5)) hw, st_row _ _ _ _ (Ex.tx (e4.trans e5)) hs, wok, ok, fun p H6 T np e6 hT hp => q2 p H6 np e6 ⟨T, hT, hp⟩⟩) fun r L H5 nr e5 hL hl => ?_
    have hrp : ¬ r = p := fun z => by rw [z, hp4] at nr; cases nr
    have hp5 := e5 _ _ hp4
    have e05 := e4.trans e5
    refine s_for (src_put st_row (mok_new hp5) hl hrp) (fun Hs i σ' H' => Kp (fun b => b = p) Hs H' ∧ (∃ y4 y5, σ' = [some v, some u, some x, some (.ref p), y4, y5, none, none]) ∧ ∃ ys, H' p = some (.lst ys) ∧ Paired (rEndC wb s pr H') ys (L.take i) ∧ ys.length ≤ i) (fun Hs es => ⟨Kp.refl _, ⟨none, none, rfl⟩, [], es _ _ hp5, .nil, Nat.le_refl _⟩) (fun _ _ _ _ h => h.1) ?_ ?_
    · rintro Hs i y e σ' H' es hi ry ⟨kp, ⟨y4, y5, rfl⟩, ys, hy, py, hlen⟩
      have hm : e ∈ L := List.mem_of_getElem? hi
      have hend := (hL.1 e).mp hm
      have et : L.take (i + 1) = L.take i ++ [e] := by rw [List.take_add_one, hi] <;> rfl
      have hil : i < L.length := (List.getElem?_eq_some_iff.mp hi).1
      have tx : Tx H H' := (Ex.tx (e05.trans es)).trans (kp.tx ((mok_new hp5).mono es))
      have a : Args3 H' v u y wb s e := sub_args (st_tup st_row _ _ _ _ tx hw) (st_row _ _ _ _ tx hs) ry wok ok hend.1
      have hx' : rRow H' x pr := st_row _ _ _ _ tx hx
      refine q_asgN (evn_call (P := fun x H2 => ∃ T, Tells wb s e T ∧ rLst rRow H2 x T) (ea_cons (ev_var rfl) (ea_cons (ev_var rfl) (ea_cons (ev_var rfl) ea_nil))) fun H6 e6 Q2 q2 => ⟨v, u, y, wb, s, e, rfl, a.tx (Ex.tx e6), fun p H7 T np e7 hT hp => q2 p H7 np e7 ⟨T, hT, hp⟩⟩) fun t H6 nt e6 ⟨Ts, hT, htl⟩ => ?_
      have hy6 := e6 _ _ hy
      have hne := Tells.ne wok ok hend.1 hend.2.2 hT.1
      have hx6 := st_row _ _ _ _ (Ex.tx e6) hx'
      obtain ⟨t', ts, et', hts, pts⟩ := htl
      obtain rfl : t = t' := V.ref.inj et'
      refine ⟨.ref p, rfl, .inl ⟨rfl, ys, sq_of hy6⟩, ?_⟩
      refine evd_min (σ := [some v, some u, some x, some (.ref p), some y, some (.ref t), none, none]) (H := H6) (ns := Ts.map (wt pr)) (fun z => hne (List.map_eq_nil_iff.mp z)) (evn_lc0 (j := 6) (vs := [6]) (R := rRow) (R2 := rI) (g := wt pr) (src_lstK (K := K) st_row mok0 (ev_var (i := 5) rfl) hts (fun z => z) pts) st_I (by have := hT.2; omega) (fun _ => rfl) fun H7 z row e7 hm7 rz => ?_).d H6 (Ex.refl _) _ fun z H7 e7 ⟨m, ez, hmm, hmin⟩ => ?_
      · have oks := ok.sub (tell_sub ((hT.1 row).mp hm7))
        exact evd_of (ev_wts (src_row mok0 (evd_var st_row rfl rz)) pok oks.rng (set_len wok oks) (st_row _ _ _ _ (Ex.tx e7) hx6) (fun _ => rfl) (fun _ => rfl) (fun _ => rfl)) fun _ _ => rfl
      · subst ez
        obtain ⟨b, rfl, hb⟩ := st_row _ _ _ _ (Ex.tx (e6.trans e7)) ry
        refine ⟨.ref b, rfl, by show 2 ≤ sizeLine; decide, fun d nd => ?_⟩
        have ed : Ex H7 (upd H7 d (.tup [.int m, .ref b])) := Ex.new nd
        have hd8 : (upd H7 d (.tup [.int m, .ref b])) d = some (.tup [.int m, .ref b]) := upd_same
        generalize upd H7 d (.tup [.int m, .ref b]) = H8 at ed hd8
        have e68 := (e6.trans e7).trans ed
        have hy8 := e68 _ _ hy
        obtain ⟨r0, hr0, er0⟩ := List.mem_map.mp hmm
        refine ⟨p, ys, .ref d, rfl, rfl, hy8, sz_lt (by have := hL.2; omega), ?_⟩
        refine ⟨(kp.trans (Kp.of_ex e68)).mut rfl, ⟨_, _, rfl⟩, ys ++ [.ref d], upd_same, ?_, by rw [List.length_append]; simp; omega⟩
        rw [et]
        have tx8 : Tx H8 (upd H8 p (.lst (ys ++ [.ref d]))) := (Ex.tx (Ex.refl H8)).mut hy8 (fun _ z => by cases z)
        refine Paired.snoc' (Paired.st st_endC ((Ex.tx e68).trans tx8) py) (st_endC _ _ _ _ tx8 ⟨m, r0, ⟨d, b, rfl, hd8, ed _ _ hb⟩, (hT.1 r0).mp hr0, er0.symm, fun r1 hr1 => hmin _ (List.mem_map.mpr ⟨r1, (hT.1 r1).mpr hr1, rfl⟩)⟩)
    · rintro Hs σ' H' es ⟨kp, ⟨y4, y5, rfl⟩, ys, hy, py, hlen⟩
      rw [List.take_length] at py
      obtain ⟨ds, h1, h2, h3⟩ := ends_ds py
      have hpk := (hL.1 _).mpr (peaks_end wok ok)
      refine s_retD (evd_minP (ds := ds) (fun z => ?_) (evd_of (ev_var rfl) fun H7 e7 => ⟨p, ys, rfl, e7 _ _ hy, Paired.st st_pair (Ex.tx e7) h1⟩)) fun z H7 e7 ⟨d, hd, rd, hmin⟩ => ?_
      · rw [z] at h2
        rw [← h2] at hpk
        cases hpk
      · refine q z H7 d ((ex_of_kp np0 (e05.trans es) kp).trans e7) rd ((hL.1 _).mp (by rw [← h2]; exact List.mem_map.mpr ⟨d, hd, rfl⟩)) (h3 d hd) fun e c row he hb => ?_
        have := (hL.1 e).mpr he
        rw [← h2] at this
        obtain ⟨d2, hd2, rfl⟩ := List.mem_map.mp this
        obtain ⟨row2, b2⟩ := h3 d2 hd2
        have := best_uniq hb b2
        have := hmin d2 hd2
        omega
/-! ### tight_telling -/
def Tight (wb : Wb) (s go : Rw) (F : List Rw) : Prop := (∀ r, r ∈ F ↔ Tell wb s go r ∧ ∀ p ∈ r, ¬ Tell wb s go (r.filter fun x => !decide (x = p))) ∧ F.length ≤ 128
def spTight : Sp := fun vs H Q _ => ∃ v u g wb s go, vs = [v, u, g] ∧ Args3 H v u g wb s go ∧ fits wb s go = true ∧ ∀ q H2 F, H q = none → Ex H H2 → Tight wb s go F → rLst rRow H2 (.ref q) F → Q (.ref q) H2
theorem k_tight_telling (D : Dn K mg "tight_telling" sTightTelling ["web", "standing", "goal"]) (T : Bt mg) (c_need_way : Cal P w K mg base 6 "need_way" spNeedWay []) (c_telling_in : Cal P w K mg base 3 "telling_in" spTelling0 []) : Cal P w K mg base 7 "tight_telling" spTight [] := by
  refine mkCal D scTightTelling (fun vs H Q E h => ?_) (fun f cdv A outer s H vs Q E hr h => ?_)
  · obtain ⟨v, u, g, wb, s, go, rfl, _⟩ := h
    rfl
  · obtain ⟨v, u, g, wb, s, go, rfl, a, hf, q⟩ := h
    refine ⟨_, (pss_cons (ps_expr (pe_c c_need_way hr (by decide) (by rfl) (pa_cons (pv 0) (pa_cons (pv 1) (pa_cons (pv 2) pa_nil)))))
  (pss_cons (ps_asg (pe_tup (pa_cons (pe_c c_telling_in hr (by decide) (by rfl) (pa_cons (pv 0) (pa_cons (pv 1) (pa_cons (pv 2) pa_nil)))) (pa_cons (pe_lst pa_nil) pa_nil))) (pg_tup rfl (pgs_cons (pg_name (i := 3) scTightTelling.nd rfl (by first | exact Or.inl rfl | exact Or.inr rfl)) (pgs_cons (pg_name (i := 4) scTightTelling.nd rfl (by first | exact Or.inl rfl | exact Or.inr rfl)) pgs_nil))))
  (pss_cons (ps_for PassesOwn.never rfl (pi_listK K (pv 3)) (pg_name (i := 5) scTightTelling.nd rfl (by first | exact Or.inl rfl | exact Or.inr rfl))
  (pss_one (ps_if (pt_not (pt_val (pe_callB (anyK K rfl) (by rfl) T.n_any (by decide +kernel) (pa_cons (pe_lc (own := [("person", 6)]) rfl scTightTelling.nd (pi_tupK K (pv 5)) (blkOk_by (own := [("person", 6)]) (by kernel_rfl)) (fun _ _ _ _ _ => (pg_name (i := 6) scTightTelling.nd rfl (by first | exact Or.inl rfl | exact Or.inr rfl))) (fun _ _ _ _ _ => pts_nil) (fun _ _ _ _ _ => (pe_cmpR (inDK K (room65 hr)) (pe_callTy (tupleK K) (by rfl) T.n_tuple (by decide +kernel) (pa_cons (pe_lc (own := [("one", 7)]) rfl scTightTelling.nd (pi_tupK K (pv 5)) (blkOk_by (own := [("one", 7)]) (by kernel_rfl)) (fun _ _ _ _ _ => (pg_name (i := 7) scTightTelling.nd rfl (by first | exact Or.inl rfl | exact Or.inr rfl))) (fun _ _ _ _ _ => (pts_one (pt_cmpR op_ne (pv 7) (pv 6) (nomark _)))) (fun _ _ _ _ _ => (pv 7))) pa_nil)) (pv 3) (by rfl)))) pa_nil)))) (pss_one (ps_expr (pe_bm PySem.F.plainAttrs_list PySem.F.slot_list_append PySem.F.type_list_append mt_append (pv 4) (pa_cons (pv 5) pa_nil)))) pss_nil)))
  (pss_one (ps_ret (pv 4)))))), ?_⟩
    refine q_drop (v := .non) (ev_call (ea_cons (ev_var rfl) (ea_cons (ev_var rfl) (ea_cons (ev_var rfl) ea_nil))) fun H3 e3 Q2 q2 E2 => ⟨v, u, g, wb, s, go, rfl, a.tx (Ex.tx e3), hf, q2⟩) fun H1 e1 => ?_
    have a1 := a.tx (Ex.tx e1)
    refine evn_call (σ := [some v, some u, some g, none, none, none, none, none]) (H := H1) (P := fun x H2 => ∃ T, Tells wb s go T ∧ rLst rRow H2 x T) (ea_cons (ev_var rfl) (ea_cons (ev_var rfl) (ea_cons (ev_var rfl) ea_nil))) (fun H2 e2 Q2 q2 => ⟨v, u, g, wb, s, go, rfl, a1.tx (Ex.tx e2), fun p H3 T np e3 hT hp => q2 p H3 np e3 ⟨T, hT, hp⟩⟩) H1 (Ex.refl _) _ fun sa H2 ns e2 ⟨Ts, hT, sa', xs, esa, hsa, psa⟩ => ?_
    obtain rfl : sa = sa' := V.ref.inj esa
    refine ⟨Nat.zero_le _, fun p np => ⟨by show 2 ≤ sizeLine; decide, fun t nt => ⟨t, [.ref sa, .ref p], rfl, st_of upd_same, rfl, .ref sa, [.ref p], rfl, .ref p, [], rfl, rfl, ?_⟩⟩⟩
    have hps : ¬ sa = p := fun z => by rw [z, np] at hsa; cases hsa
    have e3 : Ex H2 (upd (upd H2 p (.lst [])) t (.tup [.ref sa, .ref p])) := (Ex.new np).trans (Ex.new nt)
    have hp3 : (upd (upd H2 p (.lst [])) t (.tup [.ref sa, .ref p])) p = some (.lst []) := (Ex.new nt) _ _ upd_same
    generalize upd (upd H2 p (.lst [])) t (.tup [.ref sa, .ref p]) = H3 at e3 hp3
    have hsa3 := e3 _ _ hsa
    have psa3 := Paired.st st_row (Ex.tx e3) psa
    have np0 := fresh_back (e1.trans e2) np
    refine s_acc (R2 := rRow) (f := fun r => !(r.any fun p => decide (r.filter (fun x => !decide (x = p)) ∈ Ts))) (g := id) (src_lstK st_row (mok_new hp3) (ev_var rfl) hsa3 hps psa3) st_row (by have := hT.2; omega) hp3 (fun _ => rfl) (fun H4 x r k hm rx => ?_) (fun H4 x r k hm rx _ => ?_) (fun y H4 k ⟨ys, hy, py⟩ σ' hσ => ?_)
    · have hr7 : r.length ≤ 7 := set_len a.wok (a.sok.sub (tell_sub ((hT.1 r).mp hm)))
      have tx4 := k.tx (mok_new hp3)
      have hsa4 : H4 sa = some (.lst xs) := k _ _ hps hsa3
      refine et_is (et_not (et_B (ev_any (evn_lc0 (g := fun p => decide (r.filter (fun x => !decide (x = p)) ∈ Ts)) (src_row mok0 (evd_var st_row rfl rx)) st_B (by omega) (fun _ => rfl) fun H5 z p e5 hm5 r5 => ?_).d))) (by rw [any_id])
      obtain rfl : z = .int p := r5
      have rx5 := st_row _ _ _ _ (Ex.tx e5) rx
      refine evd_of (ev_inRows (evn_tupleI (evn_lcF (f := fun x => !decide (x = p)) (src_row mok0 (evd_var st_row rfl rx5)) st_I (by omega) (fun _ => rfl) (fun _ => rfl) fun H6 y o e6 hm6 r6 => ?_).d).d (evd_of (ev_var rfl) fun H6 e6 => ⟨sa, xs, rfl, (e5.trans e6) _ _ hsa4, Paired.st st_row (tx4.trans (Ex.tx (e5.trans e6))) psa3⟩)) fun _ _ => rfl
      obtain rfl : y = .int o := r6
      refine et_is (et_test (ev_op (ev_var rfl) (ev_var rfl) (rv_ne rfl))) ?_
      rw [dec_int, Bool.eq_iff_iff]
      simp
    · exact evd_var st_row rfl rx
    · rw [List.map_id] at py
      have hv : σ'[4]? = some (some (.ref p)) := by rcases hσ with rfl | rfl <;> rfl
      have ex4 : Ex H H4 := ex_of_kp np0 ((e1.trans e2).trans e3) k
      refine s_ret (ev_var hv) fun H5 e5 => q p H5 _ np0 (ex4.trans e5) ⟨fun r => ?_, Nat.le_trans (List.length_filter_le _ _) hT.2⟩ ⟨p, ys, rfl, e5 _ _ hy, Paired.st st_row (Ex.tx e5) py⟩
      rw [List.mem_filter, hT.1]
      simp only [Bool.not_eq_true', List.any_eq_false, decide_eq_true_eq, hT.1]
/-! ### must_call -/
def spMust : Sp := fun vs H Q _ => ∃ v u g wb s go, vs = [v, u, g] ∧ Args3 H v u g wb s go ∧ fits wb s go = true ∧ ∀ q H2 T, H q = none → Ex H H2 → Tells wb s go T → rRow H2 (.ref q) (mustIn s T) → Q (.ref q) H2
theorem k_must_call (D : Dn K mg "must_call" sMustCall ["web", "standing", "goal"]) (T : Bt mg) (c_need_way : Cal P w K mg base 6 "need_way" spNeedWay []) (c_telling_in : Cal P w K mg base 3 "telling_in" spTelling0 []) : Cal P w K mg base 7 "must_call" spMust [] := by
  refine mkCal D scMustCall (fun vs H Q E h => ?_) (fun f cdv A outer s H vs Q E hr h => ?_)
  · obtain ⟨v, u, g, wb, s, go, rfl, _⟩ := h
    rfl
  · obtain ⟨v, u, g, wb, s, go, rfl, a, hf, q⟩ := h
    refine ⟨_, (pss_cons (ps_expr (pe_c c_need_way hr (by decide) (by rfl) (pa_cons (pv 0) (pa_cons (pv 1) (pa_cons (pv 2) pa_nil)))))
  (pss_cons (ps_par (i := 3) (j := 4) rfl scMustCall.nd rfl rfl (by decide) rfl rfl (pa_cons (pe_c c_telling_in hr (by decide) (by rfl) (pa_cons (pv 0) (pa_cons (pv 1) (pa_cons (pv 2) pa_nil)))) (pa_cons (pe_lst pa_nil) pa_nil)) (by rfl))
  (pss_cons (ps_for PassesOwn.never rfl (pi_tupK K (pv 1)) (pg_name (i := 5) scMustCall.nd rfl (by first | exact Or.inl rfl | exact Or.inr rfl))
  (pss_one (ps_if (pt_val (pe_callB (allK K rfl) (by rfl) T.n_all (by decide +kernel) (pa_cons (pe_lc (own := [("row", 6)]) rfl scMustCall.nd (pi_listK K (pv 3)) (blkOk_by (own := [("row", 6)]) (by kernel_rfl)) (fun _ _ _ _ _ => (pg_name (i := 6) scMustCall.nd rfl (by first | exact Or.inl rfl | exact Or.inr rfl))) (fun _ _ _ _ _ => pts_nil) (fun _ _ _ _ _ => (pe_cmpR (in_seqK K) (pv 5) (pv 6) (by rfl)))) pa_nil))) (pss_one (ps_expr (pe_bm PySem.F.plainAttrs_list PySem.F.slot_list_append PySem.F.type_list_append mt_append (pv 4) (pa_cons (pv 5) pa_nil)))) pss_nil)))
  (pss_one (ps_ret (pe_callTy (tupleK K) (by rfl) T.n_tuple (by decide +kernel) (pa_cons (pv 4) pa_nil))))))), ?_⟩
    refine q_drop (v := .non) (ev_call (ea_cons (ev_var rfl) (ea_cons (ev_var rfl) (ea_cons (ev_var rfl) ea_nil))) fun H3 e3 Q2 q2 E2 => ⟨v, u, g, wb, s, go, rfl, a.tx (Ex.tx e3), hf, q2⟩) fun H1 e1 => ?_
    have a1 := a.tx (Ex.tx e1)
    refine evn_call (σ := [some v, some u, some g, none, none, none, none]) (H := H1) (P := fun x H2 => ∃ T, Tells wb s go T ∧ rLst rRow H2 x T) (ea_cons (ev_var rfl) (ea_cons (ev_var rfl) (ea_cons (ev_var rfl) ea_nil))) (fun H2 e2 Q2 q2 => ⟨v, u, g, wb, s, go, rfl, a1.tx (Ex.tx e2), fun p H3 T np e3 hT hp => q2 p H3 np e3 ⟨T, hT, hp⟩⟩) H1 (Ex.refl _) _ fun sa H2 ns e2 ⟨Ts, hT, sa', xs, esa, hsa, psa⟩ => ?_
    obtain rfl : sa = sa' := V.ref.inj esa
    refine ⟨Nat.zero_le _, fun p np => ⟨_, _, rfl, ?_⟩⟩
    have hps : ¬ sa = p := fun z => by rw [z, np] at hsa; cases hsa
    have e3 : Ex H2 (upd H2 p (.lst [])) := Ex.new np
    have hp3 : (upd H2 p (.lst [])) p = some (.lst []) := upd_same
    generalize upd H2 p (.lst []) = H3 at e3 hp3
    have hsa3 := e3 _ _ hsa
    have psa3 := Paired.st st_row (Ex.tx e3) psa
    have np0 := fresh_back (e1.trans e2) np
    have a3 := a1.tx (Ex.tx (e2.trans e3))
    have hl := set_len a.wok a.sok
    refine s_acc (R2 := rI) (f := fun p => Ts.all fun r => decide (p ∈ r)) (g := id) (src_row (mok_new hp3) (evd_var st_row rfl a3.st)) st_I (by omega) hp3 (fun _ => rfl) (fun H4 x p4 k hm rx => ?_) (fun H4 x p4 k hm rx _ => ?_) (fun y H4 k ⟨ys, hy, py⟩ σ' hσ => ?_)
    · obtain rfl : x = .int p4 := rx
      have tx4 := k.tx (mok_new hp3)
      have hsa4 : H4 sa = some (.lst xs) := k _ _ hps hsa3
      refine et_is (et_B (ev_all (evn_lc0 (g := fun r => decide (p4 ∈ r)) (src_lstK st_row mok0 (ev_var rfl) hsa4 (fun z => z) (Paired.st st_row tx4 psa3)) st_B (by have := hT.2; omega) (fun _ => rfl) fun H5 z r e5 hm5 r5 => ?_).d)) (all_id _ _)
      exact evd_of (ev_inTD (ev_var rfl) (evd_var st_row rfl r5)) fun _ _ => rfl
    · obtain rfl : x = .int p4 := rx
      exact evd_of (ev_var rfl) fun _ _ => rfl
    · rw [List.map_id] at py
      have hv : σ'[4]? = some (some (.ref p)) := by rcases hσ with rfl | rfl <;> rfl
      have ex4 : Ex H H4 := ex_of_kp np0 ((e1.trans e2).trans e3) k
      exact s_retN (evn_tupleI (l := mustIn s Ts) (evd_of (ev_var hv) fun H5 e5 => ⟨p, ys, rfl, e5 _ _ hy, Paired.st st_I (Ex.tx e5) py⟩)) fun r H5 nr e5 hr5 => q r H5 Ts (fresh_back ex4 nr) (ex4.trans e5) hT hr5
/-! ### told -/
def spTold : Sp := fun vs H Q _ => ∃ v u g wb s r, vs = [v, u, g] ∧ Args3 H v u g wb s r ∧ ∀ q H2, H q = none → Ex H H2 → rRow H2 (.ref q) (toldIn wb s r) → Q (.ref q) H2
theorem k_told_in (D : Dn K mg "told_in" sToldIn ["web", "standing", "people"]) (T : Bt mg) : Cal P w K mg base 1 "told_in" spTold [] := by
  refine mkCal D scToldIn (fun vs H Q E h => ?_) (fun f cdv A outer s H vs Q E hr h => ?_)
  · obtain ⟨v, u, g, wb, s, r, rfl, _⟩ := h
    rfl
  · obtain ⟨v, u, g, wb, s, r, rfl, a, q⟩ := h
    refine ⟨_, (pss_cons (ps_asg (pe_tup (pa_cons (pe_lc (own := [("person", 5)]) rfl scToldIn.nd (pi_tupK K (pv 2)) (blkOk_by (own := [("person", 5)]) (by kernel_rfl)) (fun _ _ _ _ _ => (pg_name (i := 5) scToldIn.nd rfl (by first | exact Or.inl rfl | exact Or.inr rfl))) (fun _ _ _ _ _ => (pts_one (pt_cmpR (in_seqK K) (pv 5) (pv 1) (by rfl)))) (fun _ _ _ _ _ => (pv 5))) (pa_cons (pe_lst pa_nil) pa_nil))) (pg_tup rfl (pgs_cons (pg_name (i := 3) scToldIn.nd rfl (by first | exact Or.inl rfl | exact Or.inr rfl)) (pgs_cons (pg_name (i := 4) scToldIn.nd rfl (by first | exact Or.inl rfl | exact Or.inr rfl)) pgs_nil))))
  (pss_cons (ps_for PassesOwn.never rfl (pi_tupK K (pv 1)) (pg_name (i := 5) scToldIn.nd rfl (by first | exact Or.inl rfl | exact Or.inr rfl))
  (pss_one (ps_if (pt_not (pt_val (pe_callB (anyK K rfl) (by rfl) T.n_any (by decide +kernel) (pa_cons (pe_lc (own := [("other", 6)]) rfl scToldIn.nd (pi_tupK K (pe_ix (ixTK K) (pv 0) (pv 5) (fun _ _ => rfl))) (blkOk_by (own := [("other", 6)]) (by kernel_rfl)) (fun _ _ _ _ _ => (pg_name (i := 6) scToldIn.nd rfl (by first | exact Or.inl rfl | exact Or.inr rfl))) (fun _ _ _ _ _ => pts_nil) (fun _ _ _ _ _ => (pe_and (pe_cmpR op_gt (pv 6) (pv 5) (nomark _)) (pe_one (pe_cmpR (in_seqK K) (pv 6) (pv 3) (by rfl)))))) pa_nil)))) (pss_one (ps_expr (pe_bm PySem.F.plainAttrs_list PySem.F.slot_list_append PySem.F.type_list_append mt_append (pv 4) (pa_cons (pv 5) pa_nil)))) pss_nil)))
  (pss_one (ps_ret (pe_callTy (tupleK K) (by rfl) T.n_tuple (by decide +kernel) (pa_cons (pv 4) pa_nil)))))), ?_⟩
    have hl := set_len a.wok a.sok
    have hl2 := set_len a.wok a.gok
    refine q_two (evn_lcF (f := fun p => decide (p ∈ s)) (src_row mok0 (evd_var st_row rfl a.goal)) st_I (by omega) (fun _ => rfl) (fun _ => rfl) fun H2 x p e2 hm rx => ?_) (by rfl) (fun sa p H2 H3 ns e2 np e3 hp3 hps ⟨sa', xs, esa, hsa, psa⟩ => ?_) (fun sa H2 ⟨sa', xs, esa, hsa, psa⟩ => ⟨.lst xs, by rw [V.ref.inj esa]; exact hsa⟩)
    · obtain rfl : x = .int p := rx
      exact et_test (ev_inTD (ev_var rfl) (evd_var st_row rfl (a.tx (Ex.tx e2)).st))
    obtain rfl : sa = sa' := V.ref.inj esa
    have hsa3 := e3 _ _ hsa
    have np0 := fresh_back e2 np
    have a3 := a.tx (Ex.tx (e2.trans e3))
    rw [ints_of_pi psa] at hsa3
    refine s_acc (R2 := rI) (f := okB wb (r.filter fun p => decide (p ∈ s))) (g := id) (src_row (mok_new hp3) (evd_var st_row rfl a3.st)) st_I (by omega) hp3 (fun _ => rfl) (fun H4 x p4 k hm rx => ?_) (fun H4 x p4 k hm rx _ => ?_) (fun y H4 k ⟨ys, hy, py⟩ σ' hσ => ?_)
    · obtain rfl : x = .int p4 := rx
      have a4 := a3.tx (k.tx (mok_new hp3))
      have hsa4 := k _ _ hps hsa3
      have rl := a.sok.rng p4 hm
      refine et_is (et_not (et_B (ev_any (evn_lc0 (g := fun o => decide (p4 < o) && decide (o ∈ r.filter fun p => decide (p ∈ s))) (src_fr mok0 rl.1 rl.2 (evd_var (st_tup st_row) rfl a4.web) (ev_var rfl)) st_B (by have := a.wok.fr_len p4; omega) (fun _ => rfl) fun H5 z o e5 hm5 r5 => ?_).d))) ?_
      · obtain rfl : z = .int o := r5
        exact evd_of (ev_and2 (ev_gt (ev_var rfl) (ev_var rfl)) (ev_inL (ev_var rfl) (ev_var rfl) (e5 _ _ hsa4))) fun _ _ => rfl
      · rw [any_id] <;> rfl
    · obtain rfl : x = .int p4 := rx
      exact evd_of (ev_var rfl) fun _ _ => rfl
    · rw [List.map_id] at py
      have hv : σ'[4]? = some (some (.ref p)) := by rcases hσ with rfl | rfl <;> rfl
      have ex4 : Ex H H4 := ex_of_kp np0 (e2.trans e3) k
      exact s_retN (evn_tupleI (l := toldIn wb s r) (evd_of (ev_var hv) fun H5 e5 => ⟨p, ys, rfl, e5 _ _ hy, Paired.st st_I (Ex.tx e5) py⟩)) fun q5 H5 nr e5 hr5 => q q5 H5 (fresh_back ex4 nr) (ex4.trans e5) hr5
theorem k_told (D : Dn K mg "told" sTold ["web", "standing", "people"]) (T : Bt mg) (c_need_state : Cal P w K mg base 4 "need_state" spNeedState []) (c_need_people : Cal P w K mg base 4 "need_people" spNeedPeople []) (c_told_in : Cal P w K mg base 1 "told_in" spTold []) : Cal P w K mg base 5 "told" spTold [] := by
  refine mkCal D scTold (fun vs H Q E h => ?_) (fun f cdv A outer s H vs Q E hr h => ?_)
  · obtain ⟨v, u, g, wb, s, r, rfl, _⟩ := h
    rfl
  · obtain ⟨v, u, g, wb, s, r, rfl, a, q⟩ := h
    refine ⟨_, (pss_cons (ps_expr (pe_c c_need_state hr (by decide) (by rfl) (pa_cons (pv 0) (pa_cons (pv 1) pa_nil))))
  (pss_cons (ps_expr (pe_c c_need_people hr (by decide) (by rfl) (pa_cons (pv 0) (pa_cons (pv 2) pa_nil))))
  (pss_one (ps_ret (pe_c c_told_in hr (by decide) (by rfl) (pa_cons (pv 0) (pa_cons (pv 1) (pa_cons (pv 2) pa_nil)))))))), ?_⟩
    refine q_drop (v := .non) (ev_call (ea_cons (ev_var rfl) (ea_cons (ev_var rfl) ea_nil)) fun H2 e2 Q2 q2 E2 => ⟨v, u, wb, s, rfl, (a.tx (Ex.tx e2)).web, (a.tx (Ex.tx e2)).st, a.wok, a.sok, q2⟩) fun H1 e1 => ?_
    refine q_drop (v := .non) (ev_call (ea_cons (ev_var rfl) (ea_cons (ev_var rfl) ea_nil)) fun H2 e2 Q2 q2 E2 => ⟨v, g, wb, r, rfl, (a.tx (Ex.tx (e1.trans e2))).web, (a.tx (Ex.tx (e1.trans e2))).goal, a.gok, a.wok.le, q2⟩) fun H2 e2 => ?_
    have ex := e1.trans e2
    exact s_retN (evn_call (P := fun x H2 => rRow H2 x (toldIn wb s r)) (ea_cons (ev_var rfl) (ea_cons (ev_var rfl) (ea_cons (ev_var rfl) ea_nil))) fun H3 e3 Q2 q2 => ⟨v, u, g, wb, s, r, rfl, a.tx (Ex.tx (ex.trans e3)), q2⟩) fun p H3 np e3 hp => q p H3 (fresh_back ex np) (ex.trans e3) hp
end
end K87
set_option Elab.async false
set_option linter.all false
set_option maxRecDepth 100000
set_option maxHeartbeats 4000000
namespace K87
open PySem L2 Evl PyProof.Rows
open C8 (Cal pe_c)
/-! ### the law's row: [script, at, seed, rest] -/
def LR (ra sa : Addr) (H : Hp) : Prop := ∃ i j k : Int, H ra = some (.lst [.ref sa, .int i, .int j, .int k]) ∧ 0 ≤ i
def Scr (K : PySem.W.Frag) (sa : Addr) (ns : List Int) (H : Hp) : Prop := SqL K H sa (ns.map V.int) ∧ ns.length ≤ 63
abbrev at1 (ra : Addr) : Addr → Prop := fun b => b = ra
theorem scr_kp {K : PySem.W.Frag} {ra sa : Addr} {ns : List Int} {H H' : Hp} (h : Scr K sa ns H) (l : LR ra sa H) (k : Kp (at1 ra) H H') : Scr K sa ns H' := by
  obtain ⟨h, h2⟩ := h
  obtain ⟨i, j, r, hr, _⟩ := l
  refine ⟨?_, h2⟩
  rcases h with h | h
  · rcases h with h | ⟨o, h⟩
    · refine .inl (.inl (k sa _ (fun e => ?_) h))
      rw [show sa = ra from e, hr] at h
      injection h with h
      injection h with h
      cases ns with
      | nil => cases h
      | cons n ns => cases h
    · refine .inl (.inr ⟨o, k sa _ (fun e => ?_) h⟩)
      rw [show sa = ra from e, hr] at h
      cases h
  · exact .inr h
theorem lr_mok {ra sa : Addr} {H : Hp} (l : LR ra sa H) : MOk (at1 ra) H := by
  obtain ⟨i, j, k, h, _⟩ := l
  exact mok_new h
theorem lr_ex {ra sa : Addr} {H H' : Hp} (l : LR ra sa H) (e : Ex H H') : LR ra sa H' := let ⟨i, j, k, h, h0⟩ := l; ⟨i, j, k, e _ _ h, h0⟩
section
variable {K : PySem.W.Frag} {σ : L2.St} {H : Hp} {ta tb te : TE} {ra sa : Addr} {xs : List V} {y v : V} {r : Nat} {ns : List Int}
theorem ev_row {n : Int} {k : Nat} (hn : n = (k : Int)) (hσ : σ[r]? = some (some (.ref ra))) (h : H ra = some (.lst xs)) (hy : xs[k]? = some y) : Ev (tOp (rIxL K) (tVar r) (tC (.int n))) σ H y := fun H1 e Q q => by
  subst hn
  exact ⟨.ref ra, hσ, ra, xs, (k : Int), y, rfl, rfl, sq_of (e _ _ h), atI_nat hy, q H1 (Ex.refl _)⟩
theorem rv_rI {C : Int → Int → Prop} {g : Int → Int → V} {i j : Int} (hc : C i j) : RV (L2.rI C g) (.int i) (.int j) H (g i j) := fun H1 _ _ q => ⟨i, j, rfl, rfl, hc, q H1 (Ex.refl H1)⟩
theorem ev_int {i : Int} (h : Ev te σ H (.int i)) : Ev (tCB (fun xs H Q => (∃ i, xs = [V.int i] ∧ Q (V.int i) H) ∨ ∃ k, xs = [V.bl k] ∧ Q (V.int (if k = true then 1 else 0)) H) (tCons te tNil)) σ H (.int i) := fun H1 e Q q =>
  h H1 e _ fun H2 e2 => .inl ⟨i, rfl, q H2 e2⟩
theorem s_setR {D : Ends} {n : Int} {k : Nat} (h : Ev te σ H v) (hσ : σ[r]? = some (some (.ref ra))) (hr : H ra = some (.lst xs)) (hj : ixN xs.length n = some k) (kk : ∀ H1, Ex H H1 → D.nx σ (upd H1 ra (.lst (xs.set k v)))) : tAsg te (gSub (tVar r) (tC (.int n)) rSetL) D σ H := h H (Ex.refl _) _ fun H1 e => ⟨.ref ra, hσ, ra, xs, n, k, rfl, rfl, e _ _ hr, hj, kk H1 e⟩
theorem q_setR {tz : TS} {D : Ends} {n : Int} {k : Nat} (h : Ev te σ H v) (hσ : σ[r]? = some (some (.ref ra))) (hr : H ra = some (.lst xs)) (hj : ixN xs.length n = some k) (kk : ∀ H1, Ex H H1 → tz D σ (upd H1 ra (.lst (xs.set k v)))) : tSeq (tAsg te (gSub (tVar r) (tC (.int n)) rSetL)) tz D σ H := s_setR (D := { D with nx := tz D }) h hσ hr hj kk
/-- script[i] -/
theorem ev_scr {n : Int} {i : Nat} {m : Int} (ha : Ev ta σ H (.ref sa)) (hb : Ev tb σ H (.int n)) (h : SqL K H sa (ns.map V.int)) (hn : n = (i : Int)) (hi : ns[i]? = some m) : Ev (tOp (rIxL K) ta tb) σ H (.int m) := fun H1 e Q q =>
  ha H1 e _ fun H2 e2 => hb H2 (e.trans e2) _ fun H3 e3 => by
    subst hn
    exact ⟨sa, _, (i : Int), .int m, rfl, rfl, ex_l ((e.trans e2).trans e3) h, atI_nat (by rw [List.getElem?_map, hi] <;> rfl), q H3 (e2.trans e3)⟩
end
section
variable {P : Program} {w : World} {K : PySem.W.Frag} {mg : Str → Option Value} {base : Heap}
def spTaken (K : PySem.W.Frag) : Sp := fun vs H Q _ => ∃ ra sa ns m, vs = [.ref ra, .int m] ∧ LR ra sa H ∧ Scr K sa ns H ∧ 1 ≤ m ∧ m ≤ 1000 ∧ ∀ H2 x, Kp (at1 ra) H H2 → LR ra sa H2 → 0 ≤ x → x < m → Q (.int x) H2
theorem k_law_taken (D : Dn K mg "_law_taken" sLawTaken ["_law_row", "_law_many"]) (T : Bt mg) : Cal P w K mg base 1 "_law_taken" (spTaken K) [] := by
  refine mkCal D scLawTaken (fun vs H Q E h => ?_) (fun f cdv A outer s H vs Q E hr h => ?_)
  · obtain ⟨ra, sa, ns, m, rfl, _⟩ := h
    rfl
  · obtain ⟨ra, sa, ns, m, rfl, lr, sc, h1, h2, q⟩ := h
    refine ⟨_, (pss_cons (ps_if (pt_cmpR op_gt (pe_ix (ixLK K) (pv 0) pe_int (fun _ _ => rfl)) pe_int (nomark _)) (pss_cons (ps_set (i := 2) scLawTaken.nd rfl (Or.inl rfl) (pe_op op_mod (pe_callTy call_int1 (by rfl) T.n_int (by decide +kernel) (pa_cons (pe_ix (ixLK K) (pv 0) pe_int (fun _ _ => rfl)) pa_nil)) (pv 1)))
  (pss_cons (ps_asg (pe_op op_fdiv (pe_ix (ixLK K) (pv 0) pe_int (fun _ _ => rfl)) (pv 1)) (pg_sub (pv 0) pe_int set_list))
  (pss_one (ps_ret (pv 2))))) pss_nil)
  (pss_cons (ps_asg (pe_op op_add (pe_ix (ixLK K) (pv 0) pe_int (fun _ _ => rfl)) pe_int) (pg_sub (pv 0) pe_int set_list))
  (pss_cons (ps_if (pt_cmpR op_gt (pe_ix (ixLK K) (pv 0) pe_int (fun _ _ => rfl)) (pe_callB (lenK K) (by rfl) T.n_len (by decide +kernel) (pa_cons (pe_ix (ixLK K) (pv 0) pe_int (fun _ _ => rfl)) pa_nil)) (nomark _)) (pss_cons (ps_asg (pe_op op_mod (pe_callTy call_int1 (by rfl) T.n_int (by decide +kernel) (pa_cons (pe_op op_add (pe_op op_mul (pe_ix (ixLK K) (pv 0) pe_int (fun _ _ => rfl)) pe_int) pe_int) pa_nil)) pe_int) (pg_sub (pv 0) pe_int set_list))
  (pss_one (ps_ret (pe_op op_mod (pe_callTy call_int1 (by rfl) T.n_int (by decide +kernel) (pa_cons (pe_op op_fdiv (pe_ix (ixLK K) (pv 0) pe_int (fun _ _ => rfl)) pe_int) pa_nil)) (pv 1))))) pss_nil)
  (pss_cons (ps_set (i := 3) scLawTaken.nd rfl (Or.inl rfl) (pe_ix (ixLK K) (pe_ix (ixLK K) (pv 0) pe_int (fun _ _ => rfl)) (pe_op op_sub (pe_ix (ixLK K) (pv 0) pe_int (fun _ _ => rfl)) pe_int) (fun _ _ => rfl)))
  (pss_cons (ps_asg (pe_op op_mod (pe_callTy call_int1 (by rfl) T.n_int (by decide +kernel) (pa_cons (pe_op op_add (pe_op op_add (pe_op op_mul (pe_ix (ixLK K) (pv 0) pe_int (fun _ _ => rfl)) pe_int) (pv 3)) pe_int) pa_nil)) pe_int) (pg_sub (pv 0) pe_int set_list))
  (pss_cons (ps_if (pt_cmpR op_ge (pv 3) (pe_op op_pow pe_int pe_int) (nomark _)) (pss_one (ps_asg (pe_op op_fdiv (pv 3) (pv 1)) (pg_sub (pv 0) pe_int set_list))) pss_nil)
  (pss_one (ps_ret (pe_op op_mod (pe_callTy call_int1 (by rfl) T.n_int (by decide +kernel) (pa_cons (pv 3) pa_nil)) (pv 1)))))))))), ?_⟩
    obtain ⟨i, j, k, hr0, hi0⟩ := id lr
    have hm0 : (0 : Int) < m := by omega
    have cdm : ∀ z : Int, CDiv z m := fun z => ⟨hm0, by omega⟩
    have qm : ∀ (H2 : Hp) (z : Int), Kp (at1 ra) H H2 → LR ra sa H2 → Q (.int (z % m)) H2 := fun H2 z k l => q H2 _ k l (Int.emod_nonneg _ (by omega)) (Int.emod_lt_of_pos _ hm0)
    refine q_when (et_test (ev_gt (ev_row (k := 3) rfl rfl hr0 rfl) ev_c)) (fun _ H1 e1 => ?_) (fun _ H1 e1 => ?_)
    · have hr1 := e1 _ _ hr0
      refine q_asg (v := .int (k % m)) (ev_op (ev_int (ev_row (k := 3) rfl rfl hr1 rfl)) (ev_var rfl) (rv_rI (C := fun _ j => 0 < j) hm0)) fun H2 e2 => ?_
      have hr2 := e2 _ _ hr1
      refine q_setR (k := 3) (v := .int (k / m)) (ev_op (ev_row (k := 3) rfl rfl hr2 rfl) (ev_var rfl) (rv_rI (cdm _))) rfl hr2 rfl fun H3 e3 => ?_
      refine s_ret (ev_var rfl) fun H4 e4 => qm H4 k ?_ (lr_ex ⟨i, j, k / m, upd_same, hi0⟩ e4)
      exact (Kp.mut (M := at1 ra) (Kp.of_ex ((e1.trans e2).trans e3)) rfl).trans (Kp.of_ex e4)
    · have hr1 := e1 _ _ hr0
      refine q_setR (k := 1) (v := .int (i + 1)) (ev_op (ev_row (k := 1) rfl rfl hr1 rfl) ev_c rv_I0) rfl hr1 rfl fun H2 e2 => ?_
      have k2 : Kp (at1 ra) H (upd H2 ra (.lst [.ref sa, .int (i + 1), .int j, .int k])) := (Kp.of_ex (e1.trans e2)).mut rfl
      have hr2 : (upd H2 ra (.lst [.ref sa, .int (i + 1), .int j, .int k])) ra = some (.lst [.ref sa, .int (i + 1), .int j, .int k]) := upd_same
      show tSeq _ _ _ _ (upd H2 ra (.lst [.ref sa, .int (i + 1), .int j, .int k]))
      generalize upd H2 ra (.lst [.ref sa, .int (i + 1), .int j, .int k]) = H3 at k2 hr2
      have sc3 := scr_kp sc lr k2
      refine q_when (b := decide (((ns.map V.int).length : Int) < i + 1)) (et_test (ev_gt (ev_row (k := 1) rfl rfl hr2 rfl) (ev_len (ev_row (k := 0) rfl rfl hr2 rfl) sc3.1))) (fun _ H4 e4 => ?_) (fun hb H4 e4 => ?_)
      · have hr4 := e4 _ _ hr2
        refine q_setR (k := 2) (v := .int ((j * 48271 + 11) % 2147483647)) (ev_op (ev_int (ev_op (ev_op (ev_row (k := 2) rfl rfl hr4 rfl) ev_c (rv_rI (.inr (by decide)))) ev_c rv_I0)) ev_c (rv_rI (by decide))) rfl hr4 rfl fun H5 e5 => ?_
        have k5 : Kp (at1 ra) H (upd H5 ra (.lst [.ref sa, .int (i + 1), .int ((j * 48271 + 11) % 2147483647), .int k])) := (k2.trans (Kp.of_ex (e4.trans e5))).mut rfl
        have hr5 : (upd H5 ra (.lst [.ref sa, .int (i + 1), .int ((j * 48271 + 11) % 2147483647), .int k])) ra = some (.lst [.ref sa, .int (i + 1), .int ((j * 48271 + 11) % 2147483647), .int k]) := upd_same
        show tRet _ _ _ (upd H5 ra (.lst [.ref sa, .int (i + 1), .int ((j * 48271 + 11) % 2147483647), .int k]))
        generalize upd H5 ra (.lst [.ref sa, .int (i + 1), .int ((j * 48271 + 11) % 2147483647), .int k]) = H6 at k5 hr5
        refine s_ret (v := .int (((j * 48271 + 11) % 2147483647 / 7) % m)) (ev_op (ev_int (ev_op (ev_row (k := 2) rfl rfl hr5 rfl) ev_c (rv_rI ⟨by decide, by decide⟩))) (ev_var rfl) (rv_rI (C := fun _ j => 0 < j) hm0)) fun H7 e7 => qm H7 _ (k5.trans (Kp.of_ex e7)) ⟨_, _, _, e7 _ _ hr5, by omega⟩
      · have hlt : i.toNat < ns.length := by
          have := of_decide_eq_false hb
          rw [List.length_map] at this
          omega
        have hr4 := e4 _ _ hr2
        have sc4 := ex_l e4 sc3.1
        refine q_asg (v := .int ns[i.toNat]) (ev_scr (i := i.toNat) (ev_row (k := 0) rfl rfl hr4 rfl) (ev_op (ev_row (k := 1) rfl rfl hr4 rfl) ev_c rv_I0) sc4 (by omega) (List.getElem?_eq_getElem hlt)) fun H5 e5 => ?_
        have hr5 := e5 _ _ hr4
        generalize ns[i.toNat] = c
        refine q_setR (k := 2) (v := .int ((j * 48271 + c + 11) % 2147483647)) (ev_op (ev_int (ev_op (ev_op (ev_op (ev_row (k := 2) rfl rfl hr5 rfl) ev_c (rv_rI (.inr (by decide)))) (ev_var rfl) rv_I0) ev_c rv_I0)) ev_c (rv_rI (by decide))) rfl hr5 rfl fun H6 e6 => ?_
        have k6 : Kp (at1 ra) H (upd H6 ra (.lst [.ref sa, .int (i + 1), .int ((j * 48271 + c + 11) % 2147483647), .int k])) := (k2.trans (Kp.of_ex ((e4.trans e5).trans e6))).mut rfl
        have hr6 : (upd H6 ra (.lst [.ref sa, .int (i + 1), .int ((j * 48271 + c + 11) % 2147483647), .int k])) ra = some (.lst [.ref sa, .int (i + 1), .int ((j * 48271 + c + 11) % 2147483647), .int k]) := upd_same
        show tSeq _ _ _ _ (upd H6 ra (.lst [.ref sa, .int (i + 1), .int ((j * 48271 + c + 11) % 2147483647), .int k]))
        generalize upd H6 ra (.lst [.ref sa, .int (i + 1), .int ((j * 48271 + c + 11) % 2147483647), .int k]) = H7 at k6 hr6
        refine q_when (b := decide ((10 : Int) ^ (18 : Int).toNat ≤ c)) (et_test (ev_ge (ev_var rfl) (ev_op ev_c ev_c (rv_rI ⟨by decide, by decide, by decide⟩)))) (fun _ H8 e8 => ?_) (fun _ H8 e8 => ?_)
        · have hr8 := e8 _ _ hr6
          refine s_setR (k := 3) (v := .int (c / m)) (ev_op (ev_var rfl) (ev_var rfl) (rv_rI (cdm _))) rfl hr8 rfl fun H9 e9 => ?_
          refine s_ret (v := .int (c % m)) (ev_op (ev_int (ev_var rfl)) (ev_var rfl) (rv_rI (C := fun _ j => 0 < j) hm0)) fun H10 e10 => qm H10 _ ((Kp.mut (M := at1 ra) (k6.trans (Kp.of_ex (e8.trans e9))) rfl).trans (Kp.of_ex e10)) (lr_ex ⟨_, _, _, upd_same, by omega⟩ e10)
        · exact s_ret (v := .int (c % m)) (ev_op (ev_int (ev_var rfl)) (ev_var rfl) (rv_rI (C := fun _ j => 0 < j) hm0)) fun H9 e9 => qm H9 _ ((k6.trans (Kp.of_ex (e8.trans e9)))) ⟨_, _, _, (e8.trans e9) _ _ hr6, by omega⟩
end
end K87
set_option Elab.async false
set_option linter.all false
set_option maxRecDepth 100000
set_option maxHeartbeats 4000000
namespace K87
open PySem L2 Evl PyProof.Rows
open C8 (Cal pe_c)
def rng (lo : Int) (n : Nat) : List Int := (List.range n).map fun i => lo + (i : Nat)
theorem rng_len (lo : Int) (n : Nat) : (rng lo n).length = n := by simp [rng]
theorem rng_get {lo l : Int} {n i : Nat} (h : (rng lo n)[i]? = some l) : l = lo + (i : Nat) ∧ i < n := by
  have hi : i < n := by
    have := (List.getElem?_eq_some_iff.mp h).1
    simpa [rng] using this
  rw [show (rng lo n)[i]? = some (lo + (i : Nat)) by simp [rng, hi]] at h
  exact ⟨(Option.some.inj h).symm, hi⟩
theorem rng_asc (lo : Int) (n : Nat) : (rng lo n).Pairwise (· < ·) := by
  unfold rng
  rw [List.pairwise_map]
  exact List.pairwise_lt_range.imp fun h => by omega
theorem mem_rng {lo : Int} {n : Nat} {x : Int} : x ∈ rng lo n ↔ lo ≤ x ∧ x < lo + n := by
  unfold rng
  rw [List.mem_map]
  constructor
  · rintro ⟨i, hi, rfl⟩
    have := List.mem_range.mp hi
    omega
  · rintro ⟨h1, h2⟩
    exact ⟨(x - lo).toNat, List.mem_range.mpr (by omega), by omega⟩
theorem pw_lt {l : Rw} (h : l.Pairwise (· ≤ ·)) (nd : l.Nodup) : l.Pairwise (· < ·) := by
  have := h.and nd
  exact this.imp fun h => by have := h.1; have := h.2; omega
/-! ### the dicts -/
def mkK (ks : List Int) : List (Key × V) := ks.map fun k => (Sum.inl k, V.bl true)
theorem putK_mkK (ks : List Int) (x : Int) : putK (mkK ks) (.inl x) (.bl true) = mkK (if x ∈ ks then ks else ks ++ [x]) := by
  have e : ((mkK ks).any fun kv => decide (kv.1 = .inl x)) = decide (x ∈ ks) := by
    unfold mkK
    rw [List.any_map, Bool.eq_iff_iff]
    simp only [List.any_eq_true, Function.comp, decide_eq_true_eq]
    exact ⟨fun ⟨y, hy, e⟩ => by rw [← Sum.inl.inj e]; exact hy, fun h => ⟨x, h, rfl⟩⟩
  unfold putK
  rw [e]
  by_cases hx : x ∈ ks
  · rw [if_pos (decide_eq_true hx), if_pos hx]
    unfold mkK
    rw [List.map_map]
    refine List.map_congr_left fun y _ => ?_
    show (if _ then _ else _) = _
    split
    · rfl
    · rfl
  · rw [if_neg (by simpa using hx), if_neg hx]
    unfold mkK
    rw [List.map_append] <;> rfl
def addK (kf : Nat → List Int) (i : Nat) (x : Int) : Nat → List Int := fun m => if m = i then (if x ∈ kf m then kf m else kf m ++ [x]) else kf m
def DictsAt (das : List Addr) (kf : Nat → List Int) (H : Hp) : Prop := ∀ i a, das[i]? = some a → H a = some (.dK (mkK (kf i)))
theorem nodup_ix {α : Type} {l : List α} {i j : Nat} {a : α} (nd : l.Nodup) (h1 : l[i]? = some a) (h2 : l[j]? = some a) : i = j := by
  obtain ⟨l1, g1⟩ := List.getElem?_eq_some_iff.mp h1
  obtain ⟨l2, g2⟩ := List.getElem?_eq_some_iff.mp h2
  have p := List.pairwise_iff_getElem.mp nd
  rcases Nat.lt_trichotomy i j with h | h | h
  · exact absurd (g1.trans g2.symm) (p i j l1 l2 h)
  · exact h
  · exact absurd (g2.trans g1.symm) (p j i l2 l1 h)
theorem dicts_put {das : List Addr} {kf : Nat → List Int} {H : Hp} {i : Nat} {a : Addr} {x : Int} (nd : das.Nodup) (h : DictsAt das kf H) (hi : das[i]? = some a) : DictsAt das (addK kf i x) (upd H a (.dK (mkK (if x ∈ kf i then kf i else kf i ++ [x])))) := fun m b hb => by
  unfold addK
  by_cases e : m = i
  · subst e
    rw [hi] at hb
    obtain rfl := Option.some.inj hb
    rw [upd_same, if_pos rfl]
  · rw [if_neg e, upd_ne (fun z => e ?_)]
    · exact h m b hb
    · rw [z] at hb
      exact nodup_ix nd hb hi
structure KOk (n : Nat) (kf : Nat → List Int) : Prop where
  row : ∀ i, i < n → (kf i).Nodup ∧ (∀ x ∈ kf i, 0 ≤ x ∧ x < (n : Int)) ∧ (i : Int) ∉ kf i
  sym : ∀ i j : Nat, i < n → j < n → (j : Int) ∈ kf i → (i : Int) ∈ kf j
theorem mem_addK {kf : Nat → List Int} {i m : Nat} {x y : Int} : y ∈ addK kf i x m ↔ y ∈ kf m ∨ (m = i ∧ y = x) := by
  unfold addK
  by_cases e : m = i
  · rw [if_pos e]
    by_cases hx : x ∈ kf m
    · rw [if_pos hx]
      exact ⟨.inl, fun h => by rcases h with h | ⟨_, rfl⟩ <;> assumption⟩
    · rw [if_neg hx, List.mem_append, List.mem_singleton]
      exact ⟨fun h => h.imp id fun h => ⟨e, h⟩, fun h => h.imp id fun h => h.2⟩
  · rw [if_neg e]
    exact ⟨.inl, fun h => by rcases h with h | ⟨h, _⟩; exact h; exact absurd h e⟩
theorem nodup_addK {kf : Nat → List Int} {i m : Nat} {x : Int} (h : (kf m).Nodup) : (addK kf i x m).Nodup := by
  unfold addK
  split
  · split
    · exact h
    · rename_i hx
      exact List.nodup_append.mpr ⟨h, by simp, fun a ha b hb => by rw [List.mem_singleton.mp hb]; exact fun z => hx (z ▸ ha)⟩
  · exact h
theorem KOk.add {n : Nat} {kf : Nat → List Int} (h : KOk n kf) {a b : Int} (h0 : 0 ≤ a) (hab : a < b) (hbn : b < (n : Int)) : KOk n (addK (addK kf a.toNat b) b.toNat a) := by
  refine ⟨fun i hi => ⟨nodup_addK (nodup_addK (h.row i hi).1), fun x hx => ?_, fun hx => ?_⟩, fun i j hi hj hx => ?_⟩
  · rcases mem_addK.mp hx with hx | ⟨_, rfl⟩
    · rcases mem_addK.mp hx with hx | ⟨_, rfl⟩
      · exact (h.row i hi).2.1 x hx
      · omega
    · omega
  · rcases mem_addK.mp hx with hx | ⟨e, e2⟩
    · rcases mem_addK.mp hx with hx | ⟨e, e2⟩
      · exact (h.row i hi).2.2 hx
      · omega
    · omega
  · rw [mem_addK, mem_addK] at hx ⊢
    rcases hx with (hx | ⟨e, e2⟩) | ⟨e, e2⟩
    · exact .inl (.inl (h.sym i j hi hj hx))
    · right
      omega
    · left
      right
      omega
def rowOf (n : Nat) (kf : Nat → List Int) (i : Nat) : Rw := (rng 0 n).filter fun x => decide (x ∈ kf i)
theorem rowOf_asc (n : Nat) (kf : Nat → List Int) (i : Nat) : (rowOf n kf i).Pairwise (· < ·) := (rng_asc 0 n).sublist List.filter_sublist
theorem mem_rowOf {n : Nat} {kf : Nat → List Int} {i : Nat} {x : Int} : x ∈ rowOf n kf i ↔ (0 ≤ x ∧ x < (n : Int)) ∧ x ∈ kf i := by
  unfold rowOf
  rw [List.mem_filter, mem_rng, decide_eq_true_eq]
  constructor <;> rintro ⟨h1, h2⟩ <;> exact ⟨by omega, h2⟩
theorem fr_rowOf {n : Nat} {kf : Nat → List Int} {i : Nat} (h : i < n) : fr ((List.range n).map (rowOf n kf)) (i : Int) = rowOf n kf i := by
  refine fr_of ?_
  simp [h]
theorem KOk.web {n : Nat} {kf : Nat → List Int} (h : KOk n kf) (h1 : 1 ≤ n) (h7 : n ≤ 7) : WebOk ((List.range n).map (rowOf n kf)) := by
  have hlen : ((List.range n).map (rowOf n kf)).length = n := by simp
  refine ⟨by omega, by omega, fun r hr => ?_, fun r hr x hx => ?_, fun i hi => ?_, fun i j h0 hin hj => ?_⟩
  · obtain ⟨i, _, rfl⟩ := List.mem_map.mp hr
    exact rowOf_asc n kf i
  · obtain ⟨i, _, rfl⟩ := List.mem_map.mp hr
    rw [hlen]
    exact (mem_rowOf.mp hx).1
  · rcases Nat.lt_or_ge i.toNat n with hn | hn
    · have e : fr ((List.range n).map (rowOf n kf)) i = rowOf n kf i.toNat := by
        unfold fr
        rw [List.getD_eq_getElem?_getD]
        simp [hn]
      rw [e] at hi
      have m := mem_rowOf.mp hi
      have : ((i.toNat : Nat) : Int) = i := by omega
      rw [← this] at m
      rw [Int.toNat_natCast] at m
      exact (h.row _ hn).2.2 m.2
    · unfold fr at hi
      rw [List.getD_eq_getElem?_getD, List.getElem?_eq_none (by omega)] at hi
      cases hi
  · rw [hlen] at hin
    obtain ⟨a, rfl⟩ : ∃ a : Nat, i = (a : Int) := ⟨i.toNat, by omega⟩
    have ha : a < n := by omega
    rw [fr_rowOf ha] at hj
    have m := mem_rowOf.mp hj
    obtain ⟨b, rfl⟩ : ∃ b : Nat, j = (b : Int) := ⟨j.toNat, by omega⟩
    have hb : b < n := by omega
    rw [fr_rowOf hb, mem_rowOf]
    exact ⟨by omega, h.sym a b ha hb m.2⟩
def rAt (das : List Addr) : Rep Nat := fun _ v i => ∃ a, das[i]? = some a ∧ v = .ref a
theorem st_at {das : List Addr} : Stab (rAt das) := fun _ _ _ _ _ h => h
theorem at_pairs : ∀ (das : List Addr) (H : Hp), Paired (rAt das H) (das.map V.ref) (List.range das.length) := fun das H => by
  have : ∀ (m : List Addr) (k : Nat), (∀ i a, m[i]? = some a → das[k + i]? = some a) → Paired (rAt das H) (m.map V.ref) ((List.range m.length).map fun i => k + i) := by
    intro m
    induction m with
    | nil => intro k _; exact .nil
    | cons a m ih =>
      intro k hk
      rw [List.length_cons, List.range_succ_eq_map, List.map_cons, List.map_cons, List.map_map]
      refine .cons ⟨a, by simpa using hk 0 a rfl, rfl⟩ ?_
      have := ih (k + 1) fun i b hb => by
        have := hk (i + 1) b (by simpa using hb)
        rw [show k + 1 + i = k + (i + 1) by omega]
        exact this
      have e : ((fun i => k + i) ∘ Nat.succ) = fun i => k + 1 + i := by
        funext i
        show k + (i + 1) = k + 1 + i
        omega
      rw [e]
      exact this
  have h := this das 0 fun i a h => by rw [Nat.zero_add]; exact h
  have e : (fun i : Nat => 0 + i) = id := by funext i; exact Nat.zero_add i
  rw [e, List.map_id] at h
  exact h
theorem rng_at {lo : Int} {n i : Nat} (h : i < n) : (rng lo n)[i]? = some (lo + (i : Nat)) := by simp [rng, h]
section
variable {K : PySem.W.Frag} {σ : L2.St} {H H' : Hp} {te : TE} {tt : TT} {ta : TA} {M : Addr → Prop} {α β : Type} {R : Rep α} {R2 : Rep β} {ls : List α} {ra sa : Addr}
theorem src_rng1 {n : Int} (h : EvA ta σ H [.int n]) (hn : 0 ≤ n ∧ n ≤ 100000) : Src (iRng1 ta) σ H M rI (rng 0 n.toNat) := fun H1 e Rk q =>
  h H1 e _ fun H2 e2 => ⟨n, rfl, by omega, by omega, q _ H2 e2 (by
    rw [rng_len]
    exact (walk_range (lo := 0) (n := n.toNat)).mono (fun _ _ => trivial) fun i H' x H'' hi k y => ⟨y.1, 0 + (i : Nat), rng_at hi, y.2⟩)⟩
theorem src_rng2 {lo n : Int} (h : EvA ta σ H [.int lo, .int n]) (hn : 0 ≤ lo ∧ lo ≤ 100000 ∧ 0 ≤ n ∧ n ≤ 100000) : Src (iRng2 ta) σ H M rI (rng lo (n - lo).toNat) := fun H1 e Rk q =>
  h H1 e _ fun H2 e2 => ⟨lo, n, rfl, ⟨by omega, by omega, by omega, by omega⟩, q _ H2 e2 (by
    rw [rng_len]
    exact (walk_range (lo := lo) (n := (n - lo).toNat)).mono (fun _ _ => trivial) fun i H' x H'' hi k y => ⟨y.1, lo + (i : Nat), rng_at hi, y.2⟩)⟩
/-- [{} for x in range(n)] -/
theorem lc_dicts {j n : Nat} {vs : List Nat} (h : EvA ta σ H [.int (n : Nat)]) (hn : n ≤ 1000) (hw : ∀ x, wipe ((wipe σ vs).set j (some x)) vs = wipe σ vs) (Q : VK)
    (q : ∀ D H2 (das : List Addr), H D = none → Ex H H2 → H2 D = some (.lst (das.map V.ref)) → das.length = n → das.Nodup → (∀ a ∈ das, H a = none ∧ a ≠ D ∧ H2 a = some (.dK [])) → Q (.ref D) H2) : tLc (iRng1 ta) (gName j) tYes tDNewK vs σ H Q := by
  refine h H (Ex.refl _) _ fun H1 e1 => ⟨(n : Int), rfl, by omega, by omega, fun D hD => ?_⟩
  refine lc_it (n := (n : Int).toNat) (walk_range (lo := 0)) (Pv := fun i H' => Ex H1 H' ∧ ∃ das : List Addr, H' D = some (.lst (das.map V.ref)) ∧ das.length = i ∧ das.Nodup ∧ ∀ a ∈ das, H1 a = none ∧ a ≠ D ∧ H' a = some (.dK [])) ⟨Ex.new hD, [], upd_same, rfl, by simp, fun _ h => by cases h⟩ (fun _ _ _ _ => trivial) ?_ ?_
  · rintro i x H' H'' hi ⟨ex, das, hy, hl, nd, hd⟩ ⟨rfl, rfl⟩
    refine ⟨hw _, tyes_true ?_⟩
    rw [if_pos rfl]
    intro a na
    have hDa : D ≠ a := fun z => by rw [z, na] at hy; cases hy
    refine ⟨_, (by rw [upd_ne hDa]; exact hy), sz_lt (by rw [List.length_map]; omega), Ex.mut (ex.trans (Ex.new na)) hD, das ++ [a], ?_, by rw [List.length_append, hl] <;> rfl, ?_, fun b hb => ?_⟩
    · rw [upd_same, List.map_append] <;> rfl
    · refine List.nodup_append.mpr ⟨nd, by simp, fun b hb c hc => ?_⟩
      rw [List.mem_singleton.mp hc]
      intro z
      have := (hd b hb).2.2
      rw [z, na] at this
      cases this
    · rcases List.mem_append.mp hb with hb | hb
      · obtain ⟨h1, h2, h3⟩ := hd b hb
        refine ⟨h1, h2, ?_⟩
        rw [upd_ne h2, upd_ne (fun z => by rw [z, na] at h3; cases h3)]
        exact h3
      · rw [List.mem_singleton.mp hb]
        exact ⟨fresh_back ex na, fun z => hDa z.symm, by rw [upd_ne (fun z => hDa z.symm), upd_same]⟩
  · rintro H' ⟨ex, das, hy, hl, nd, hd⟩
    exact q D H' das (fresh_back e1 hD) (e1.trans ex) hy (by rw [hl, Int.toNat_natCast]) nd fun a ha => ⟨fresh_back e1 (hd a ha).1, (hd a ha).2⟩
/-- a comprehension whose tests and items turn the law's row on -/
theorem lc_row {wi : TI} {j : Nat} {vs : List Nat} (I : Nat → List β → Prop) (hs : Src wi σ H (at1 ra) R ls) (s2 : Stab R2) (lr : LR ra sa H) (hz : ls.length ≤ 1000) (hw : ∀ x, wipe ((wipe σ vs).set j (some x)) vs = wipe σ vs) (I0 : I 0 [])
    (ht : ∀ i x l H1, Kp (at1 ra) H H1 → LR ra sa H1 → ls[i]? = some l → R H1 x l → ∀ Q : Bool → Hp → Prop, (∀ b H2, Kp (at1 ra) H1 H2 → LR ra sa H2 → (b = false → ∀ ms, I i ms → I (i + 1) ms) → Q b H2) → tt ((wipe σ vs).set j (some x)) H1 Q)
    (he : ∀ i x l H1, Kp (at1 ra) H H1 → LR ra sa H1 → ls[i]? = some l → R H1 x l → ∀ Q : VK, (∀ y m H2, Kp (at1 ra) H1 H2 → LR ra sa H2 → R2 H2 y m → (∀ ms, I i ms → I (i + 1) (ms ++ [m])) → Q y H2) → te ((wipe σ vs).set j (some x)) H1 Q)
    (sr : Stab R) (Q : VK) (q : ∀ p H2 ms, H p = none → Kp (at1 ra) H H2 → LR ra sa H2 → I ls.length ms → ms.length ≤ ls.length → rLst R2 H2 (.ref p) ms → Q (.ref p) H2) :
    tLc wi (gName j) tt te vs σ H Q := by
  refine hs H (Ex.refl H) _ fun J H1 e1 W D hD => ?_
  have lr1 := lr_ex lr e1
  have hra : ra ≠ D := fun z => by
    obtain ⟨i, j, k, h, _⟩ := lr1
    rw [z, hD] at h
    cases h
  refine lc_it W (Pv := fun i H' => Kp (at1 ra) H1 H' ∧ LR ra sa H' ∧ ∃ ys ms, H' D = some (.lst ys) ∧ Paired (R2 H') ys ms ∧ ys.length ≤ i ∧ I i ms) ⟨Kp.of_ex (Ex.new hD), lr_ex lr1 (Ex.new hD), [], [], upd_same, .nil, Nat.le_refl _, I0⟩ (fun i H' _ p => p.1) ?_ ?_
  · rintro i x H' H'' hi ⟨kp, lr', ys, ms, hy, py, hl, hI⟩ ⟨rfl, l, hl1, rl⟩
    have kp0 := (Kp.of_ex e1).trans kp
    have nD : ¬ at1 ra D := fun z => hra z.symm
    refine ⟨hw x, ht i x l H'' kp0 lr' hl1 rl _ fun b H3 k3 lr3 hb => ?_⟩
    have hy3 := k3 _ _ nD hy
    cases b with
    | true =>
      rw [if_pos rfl]
      refine he i x l H3 (kp0.trans k3) lr3 hl1 (sr _ _ _ _ (k3.tx (lr_mok lr')) rl) _ fun y m H4 k4 lr4 r4 hm => ?_
      have hy4 := k4 _ _ nD hy3
      refine ⟨ys, hy4, sz_lt (by omega), ((kp.trans k3).trans k4).mutN hD, ?_, ys ++ [y], ms ++ [m], upd_same, ?_, by rw [List.length_append]; simp; omega, hm ms hI⟩
      · obtain ⟨a, b, c, h, h0⟩ := lr4
        exact ⟨a, b, c, by rw [upd_ne hra]; exact h, h0⟩
      · have tx4 : Tx H4 (upd H4 D (.lst (ys ++ [y]))) := (Ex.tx (Ex.refl H4)).mut hy4 (fun _ z => by cases z)
        exact Paired.snoc' (Paired.st s2 (((k3.trans k4).tx (lr_mok lr')).trans tx4) py) (s2 _ _ _ _ tx4 r4)
    | false =>
      rw [if_neg Bool.false_ne_true]
      exact ⟨kp.trans k3, lr3, ys, ms, hy3, Paired.st s2 (k3.tx (lr_mok lr')) py, by omega, hb rfl ms hI⟩
  · rintro H' ⟨kp, lr', ys, ms, hy, py, hl, hI⟩
    exact q D H' ms (fresh_back e1 hD) ((Kp.of_ex e1).trans kp) lr' hI (by rw [← Paired.length py]; exact hl) ⟨D, ys, rfl, hy, py⟩
theorem q_as {te : TE} {tz : TS} {D : Ends} {i : Nat} (h : te σ H fun v H1 => tz D (σ.set i (some v)) H1) : tSeq (tAsg te (gName i)) tz D σ H := h
theorem r_tup {te : TE} {D : Ends} (h : te σ H fun v H1 => rTupleOf K [v] H1 D.rt) : tRet (tCB (rTupleOf K) (tCons te tNil)) D σ H := h
/-- a call of _law_taken -/
theorem taken {i : Nat} {E : XK} {m : Int} {ns : List Int} {tb : TE} (hσ : σ[i]? = some (some (.ref ra))) (lr : LR ra sa H) (sc : Scr K sa ns H) (hb : Ev tb σ H (.int m)) (h1 : 1 ≤ m) (h2 : m ≤ 1000) (Q : VK) (q : ∀ H2 x, Kp (at1 ra) H H2 → LR ra sa H2 → 0 ≤ x → x < m → Q (.int x) H2) : tCall (spTaken K) [] E (tCons (tVar i) (tCons tb tNil)) σ H Q :=
  ⟨.ref ra, hσ, hb H (Ex.refl H) _ fun H2 e2 => ⟨ra, sa, ns, m, rfl, lr_ex lr e2, ⟨ex_l e2 sc.1, sc.2⟩, h1, h2, fun H3 x k l => q H3 x ((Kp.of_ex e2).trans k) l⟩⟩
theorem q_rare {i r : Nat} {E : XK} {m c : Int} {ns : List Int} {tb : TE} {tz : TS} {D : Ends} (hσ : σ[i]? = some (some (.ref ra))) (lr : LR ra sa H) (sc : Scr K sa ns H) (hb : Ev tb σ H (.int m)) (h1 : 1 ≤ m) (h2 : m ≤ 1000) (q : ∀ H2 x, Kp (at1 ra) H H2 → LR ra sa H2 → 0 ≤ x → x < m → tz D (σ.set r (some (.int (c + x)))) H2) :
    tSeq (tAsg (tOp (rI0 fun i j => .int (i + j)) (tC (.int c)) (tCall (spTaken K) [] E (tCons (tVar i) (tCons tb tNil)))) (gName r)) tz D σ H :=
  taken (i := i) (ra := ra) (sa := sa) (m := m) (tb := tb) (E := E) hσ lr sc hb h1 h2 _ fun H2 x k l a b => ⟨c, x, rfl, rfl, q H2 x k l a b⟩
end
section
variable {P : Program} {w : World} {K : PySem.W.Frag} {mg : Str → Option Value} {base : Heap}
/-! ### _law_pick -/
def spPick (K : PySem.W.Frag) : Sp := fun vs H Q _ => ∃ ra sa ns ka L, vs = [.ref ra, .ref ka] ∧ LR ra sa H ∧ Scr K sa ns H ∧ rLst rRow H (.ref ka) L ∧ ka ≠ ra ∧ L ≠ [] ∧ L.length ≤ 128 ∧ ∀ H2 x r, Kp (at1 ra) H H2 → LR ra sa H2 → r ∈ L → rRow H2 x r → Q x H2
theorem k_law_pick (D : Dn K mg "_law_pick" sLawPick ["_law_row", "_law_kinds"]) (T : Bt mg) (c__law_taken : Cal P w K mg base 1 "_law_taken" (spTaken K) []) : Cal P w K mg base 2 "_law_pick" (spPick K) [] := by
  refine mkCal D scLawPick (fun vs H Q E h => ?_) (fun f cdv A outer s H vs Q E hr h => ?_)
  · obtain ⟨ra, sa, ns, ka, L, rfl, _⟩ := h
    rfl
  · obtain ⟨ra, sa, ns, ka, L, rfl, lr, sc, hk, hne, hT, hT2, q⟩ := h
    refine ⟨_, (pss_one (ps_ret (pe_ix (ixLK K) (pv 1) (pe_c c__law_taken hr (by decide) (by rfl) (pa_cons (pv 0) (pa_cons (pe_callB (lenK K) (by rfl) T.n_len (by decide +kernel) (pa_cons (pv 1) pa_nil)) pa_nil))) (fun _ _ => rfl)))), ?_⟩
    obtain ⟨ka', ys, eka, hka, py⟩ := hk
    obtain rfl : ka = ka' := V.ref.inj eka
    have hlen := Paired.length py
    have hpos := List.length_pos_iff.mpr hT
    refine ⟨.ref ka, rfl, ?_⟩
    refine taken (i := 0) (ra := ra) (sa := sa) (m := (ys.length : Int)) rfl lr sc (ev_len (ev_var rfl) (sq_of hka)) (by omega) (by omega) _ fun H2 x k2 lr2 h0 h1 => ?_
    have hka2 := k2 _ _ hne hka
    have hx : x.toNat < ys.length := by omega
    obtain ⟨r, hr1, hr2⟩ := Paired.at py (List.getElem?_eq_getElem hx)
    have e : ((x.toNat : Nat) : Int) = x := by omega
    exact ⟨ka, ys, x, ys[x.toNat], rfl, rfl, sq_of hka2, by have z := atI_nat (List.getElem?_eq_getElem hx); rw [e] at z; exact z, q H2 _ r k2 lr2 (List.mem_of_getElem? hr1) (st_row _ _ _ _ (k2.tx (lr_mok lr)) hr2)⟩
/-! ### _law_up -/
def spUp (K : PySem.W.Frag) : Sp := fun vs H Q _ => ∃ ra sa ns v wb, vs = [.ref ra, v] ∧ LR ra sa H ∧ Scr K sa ns H ∧ rTup rRow H v wb ∧ WebOk wb ∧ ∀ H2 x s, Kp (at1 ra) H H2 → LR ra sa H2 → SetOk wb s → rRow H2 x s → Q x H2
theorem k_law_up (D : Dn K mg "_law_up" sLawUp ["_law_row", "_law_web_here"]) (T : Bt mg) (c__law_taken : Cal P w K mg base 1 "_law_taken" (spTaken K) []) : Cal P w K mg base 2 "_law_up" (spUp K) [] := by
  refine mkCal D scLawUp (fun vs H Q E h => ?_) (fun f cdv A outer s H vs Q E hr h => ?_)
  · obtain ⟨ra, sa, ns, v, wb, rfl, _⟩ := h
    rfl
  · obtain ⟨ra, sa, ns, v, wb, rfl, lr, sc, hw, wok, q⟩ := h
    refine ⟨_, (pss_cons (ps_set (i := 2) scLawUp.nd rfl (Or.inr rfl) (pe_op op_add pe_int (pe_c c__law_taken hr (by decide) (by rfl) (pa_cons (pv 0) (pa_cons pe_int pa_nil)))))
  (pss_one (ps_ret (pe_callTy (tupleK K) (by rfl) T.n_tuple (by decide +kernel) (pa_cons (pe_lc (own := [("_law_person", 3)]) rfl scLawUp.nd (pi_range1 (by rfl) T.n_range (pa_cons (pe_callB (lenK K) (by rfl) T.n_len (by decide +kernel) (pa_cons (pv 1) pa_nil)) pa_nil)) (blkOk_by (own := [("_law_person", 3)]) (by kernel_rfl)) (fun _ _ _ _ _ => (pg_name (i := 3) scLawUp.nd rfl (by first | exact Or.inl rfl | exact Or.inr rfl))) (fun _ _ _ _ _ => (pts_one (pt_cmpR op_gt (pe_c c__law_taken hr (by decide) (by rfl) (pa_cons (pv 0) (pa_cons (pv 2) pa_nil))) pe_int (nomark _)))) (fun _ _ _ _ _ => (pv 3))) pa_nil))))), ?_⟩
    refine q_rare (m := 4) rfl lr sc ev_c (by decide) (by decide) fun H1 x k1 lr1 h0 h1 => ?_
    have sc1 := scr_kp sc lr k1
    obtain ⟨a, xs, rfl, ha, hl⟩ := len_web (st_tup st_row _ _ _ _ (k1.tx (lr_mok lr)) hw)
    have h7 := wok.le
    refine r_tup ?_
    refine lc_row (σ := [some (.ref ra), some (.ref a), some (.int (2 + x)), none]) (j := 3) (vs := [3]) (R := rI) (R2 := rI) (ra := ra) (sa := sa) (fun i ms => ms.Pairwise (· < ·) ∧ ∀ y ∈ ms, 0 ≤ y ∧ y < (i : Int)) (src_rng1 (ea_cons (ev_lenT (ev_var (i := 1) rfl) ha) ea_nil) (by omega)) st_I lr1 (by rw [rng_len]; omega) (fun _ => rfl) ⟨.nil, fun _ h => by cases h⟩ ?_ ?_ st_I _ fun p H2 ms np k2 lr2 hI hlen hms => ?_
    · intro i y l H2 k2 lr2 hl2 ry Q2 q2
      have sc2 := scr_kp sc1 lr1 k2
      refine taken (σ := [some (.ref ra), some (.ref a), some (.int (2 + x)), some y]) (i := 0) (ra := ra) (sa := sa) (m := 2 + x) rfl lr2 sc2 (ev_var rfl) (by omega) (by omega) _ fun H3 z k3 lr3 h2 h3 => ⟨z, 0, rfl, rfl, _, rfl, q2 _ H3 k3 lr3 fun _ ms hI => ⟨hI.1, fun y hy => by have := hI.2 y hy; omega⟩⟩
    · intro i y l H2 k2 lr2 hl2 ry Q2 q2
      refine ⟨y, rfl, q2 y l H2 (Kp.refl _) lr2 ry fun ms hI => ?_⟩
      obtain ⟨e, hi⟩ := rng_get hl2
      refine ⟨List.pairwise_append.mpr ⟨hI.1, by simp, fun c hc d hd => ?_⟩, fun c hc => ?_⟩
      · have := hI.2 c hc
        rw [List.mem_singleton.mp hd]
        omega
      · rcases List.mem_append.mp hc with hc | hc
        · have := hI.2 c hc; omega
        · rw [List.mem_singleton.mp hc]
          omega
    · obtain ⟨p', ys, ep, hp, py⟩ := hms
      obtain rfl : p = p' := V.ref.inj ep
      rw [ints_of_pi py] at hp
      rw [rng_len] at hI
      exact ⟨p, _, rfl, .inl ⟨sq_of hp, fun r nr => q _ _ ms ((k1.trans k2).trans (Kp.of_ex (Ex.new nr))) (lr_ex lr2 (Ex.new nr)) ⟨hI.1, fun y hy => by have := hI.2 y hy; omega⟩ ⟨r, rfl, upd_same⟩⟩⟩
def spWeb (K : PySem.W.Frag) : Sp := fun vs H Q _ => ∃ ra sa ns, vs = [.ref ra, .int 6] ∧ LR ra sa H ∧ Scr K sa ns H ∧ ∀ H2 x wb, Kp (at1 ra) H H2 → LR ra sa H2 → WebOk wb → rTup rRow H2 x wb → Q x H2
def Couples (n : Nat) (cs : List Rw) : Prop := cs.length ≤ 100 ∧ ∀ c ∈ cs, ∃ a b : Int, c = [a, b] ∧ 0 ≤ a ∧ a < b ∧ b < (n : Int)
def spBy : Sp := fun vs H Q _ => ∃ n ca cs, vs = [.int (n : Nat), .ref ca] ∧ rLst rRow H (.ref ca) cs ∧ Couples n cs ∧ 1 ≤ n ∧ n ≤ 6 ∧ ∀ H2 x wb, Ex H H2 → WebOk wb → rTup rRow H2 x wb → Q x H2
theorem k_law_by (D : Dn K mg "_law_by" sLawBy ["_law_many", "_law_couples"]) (T : Bt mg) : Cal P w K mg base 1 "_law_by" spBy [] := by
  refine mkCal D scLawBy (fun vs H Q E h => ?_) (fun f cdv A outer s H vs Q E hr h => ?_)
  · obtain ⟨n, ca, cs, rfl, _⟩ := h
    rfl
  · obtain ⟨n, ca, cs, rfl, hc, cok, h1, h6, q⟩ := h
    refine ⟨_, (pss_cons (ps_setLc (i := 2) (own := [("_law_person", 5)]) rfl scLawBy.nd rfl rfl (sw_true rfl rfl rfl (by decide +kernel)) (pi_range1 (by rfl) T.n_range (pa_cons (pv 0) pa_nil)) (blkOk_by (own := [("_law_person", 5)]) (by kernel_rfl)) (fun _ _ _ _ _ => (pg_name (i := 5) scLawBy.nd rfl (by first | exact Or.inl rfl | exact Or.inr rfl))) (fun _ _ _ _ _ => pts_nil) (fun _ _ _ _ _ => pe_dnewK))
  (pss_cons (ps_for PassesOwn.never rfl (pi_listK K (pv 1)) (pg_tup rfl (pgs_cons (pg_name (i := 3) scLawBy.nd rfl (by first | exact Or.inl rfl | exact Or.inr rfl)) (pgs_cons (pg_name (i := 4) scLawBy.nd rfl (by first | exact Or.inl rfl | exact Or.inr rfl)) pgs_nil)))
  (pss_cons (ps_dput (hu_of hr) (pe_ix (ixLK K) (pv 2) (pv 3) (fun _ _ => rfl)) (pv 4) pe_bl rfl)
  (pss_one (ps_dput (hu_of hr) (pe_ix (ixLK K) (pv 2) (pv 4) (fun _ _ => rfl)) (pv 3) pe_bl rfl))))
  (pss_one (ps_ret (pe_callTy (tupleK K) (by rfl) T.n_tuple (by decide +kernel) (pa_cons (pe_lc (own := [("_law_own", 6)]) rfl scLawBy.nd (pi_listK K (pv 2)) (blkOk_by (own := [("_law_own", 6)]) (by kernel_rfl)) (fun _ _ _ _ _ => (pg_name (i := 6) scLawBy.nd rfl (by first | exact Or.inl rfl | exact Or.inr rfl))) (fun _ _ _ _ _ => pts_nil) (fun _ _ _ _ _ => (pe_callTy (tupleK K) (by rfl) T.n_tuple (by decide +kernel) (pa_cons (pe_callB (sortIK K) (by rfl) T.n_sorted (by decide +kernel) (pa_cons (pe_callTy (call_list_dK rfl) (by rfl) T.n_list (by decide +kernel) (pa_cons (pv 6) pa_nil)) pa_nil)) pa_nil)))) pa_nil)))))), ?_⟩
    obtain ⟨ca', cys, eca, hca, pca⟩ := hc
    obtain rfl : ca = ca' := V.ref.inj eca
    refine q_as ?_
    refine lc_dicts (σ := [some (.int (n : Nat)), some (.ref ca), none, none, none, none, none]) (j := 5) (vs := [5]) (n := n) (ea_cons (ev_var (i := 0) rfl) ea_nil) (by omega) (fun _ => rfl) _ fun fa H1 das nfa e1 hfa hdl hdn hd => ?_
    have hca1 := e1 _ _ hca
    have pca1 := Paired.st st_row (Ex.tx e1) pca
    have mk : MOk (fun b => b ∈ das) H1 := fun b hb => ⟨_, (hd b hb).2.2, fun _ z => by cases z⟩
    have nca : ¬ ca ∈ das := fun z => by
      have h := (hd ca z).1
      rw [hca] at h
      cases h
    have nf2 : ¬ fa ∈ das := fun z => (hd fa z).2.1 rfl
    refine s_for (R := rRow) (M := fun b => b ∈ das) (src_lstK st_row mk (ev_var rfl) hca1 nca pca1) (fun Hs i σ' H' => Kp (fun b => b ∈ das) Hs H' ∧ (∃ y3 y4, σ' = [some (.int (n : Nat)), some (.ref ca), some (.ref fa), y3, y4, none, none]) ∧ ∃ kf, DictsAt das kf H' ∧ KOk n kf ∧ ∀ m, (kf m).length ≤ 2 * i)
      (fun Hs es => ⟨Kp.refl _, ⟨none, none, rfl⟩, fun _ => [], fun i a ha => es _ _ (hd a (List.mem_of_getElem? ha)).2.2, ⟨fun i hi => ⟨by simp, by simp, by simp⟩, fun i j _ _ h => by simp at h⟩, fun m => by simp⟩) (fun _ _ _ _ h => h.1) ?_ ?_
    · rintro Hs i x c σ' H' es hl ⟨tc, rfl, htc⟩ ⟨kp, ⟨y3, y4, rfl⟩, kf, hk, ok, hkl⟩
      obtain ⟨a, b, rfl, h0, hab, hbn⟩ := cok.2 c (List.mem_of_getElem? hl)
      have hi : i < cs.length := (List.getElem?_eq_some_iff.mp hl).1
      have hc100 := cok.1
      have hfa' := kp _ _ nf2 (es _ _ hfa)
      have ha2 : a.toNat < das.length := by omega
      have hb2 : b.toNat < das.length := by omega
      have hga := List.getElem?_eq_getElem ha2
      have hgb := List.getElem?_eq_getElem hb2
      have ea : ((a.toNat : Nat) : Int) = a := by omega
      have eb : ((b.toNat : Nat) : Int) = b := by omega
      have ix : ∀ (z : Int) (d : Addr), 0 ≤ z → das[z.toNat]? = some d → atI (das.map V.ref) z = some (.ref d) := fun z d hz h => by
        have e : ((z.toNat : Nat) : Int) = z := by omega
        have := atI_nat (xs := das.map V.ref) (j := z.toNat) (v := .ref d) (by rw [List.getElem?_map, h] <;> rfl)
        rw [e] at this
        exact this
      refine ⟨tc, _, rfl, st_of htc, rfl, .int a, [.int b], rfl, .int b, [], rfl, rfl, ?_⟩
      have hda := hk _ _ hga
      have hne : das[b.toNat] ≠ das[a.toNat] := fun z => by
        rw [← z] at hga
        have := nodup_ix hdn hga hgb
        omega
      have fda : ∀ d ∈ das, fa ≠ d := fun d hd2 z => nf2 (z ▸ hd2)
      have ma := List.getElem_mem ha2
      have mb := List.getElem_mem hb2
      refine ⟨.ref fa, rfl, .int a, rfl, fa, _, a, .ref das[a.toNat], rfl, rfl, sq_of hfa', ix a _ h0 hga, .int b, rfl, das[a.toNat], _, rfl, DPut.k (k := .inl b) hda (sz_lt (by have := hkl a.toNat; rw [mkK, List.length_map]; omega)), ?_⟩
      rw [putK_mkK]
      have hk1 := dicts_put hdn hk hga (x := b)
      have hdb := hk1 _ _ hgb
      have hfa2 : (upd H' das[a.toNat] (.dK (mkK (if b ∈ kf a.toNat then kf a.toNat else kf a.toNat ++ [b])))) fa = some (.lst (das.map V.ref)) := by
        rw [upd_ne (fda _ ma)]
        exact hfa'
      generalize hH2 : upd H' das[a.toNat] (.dK (mkK (if b ∈ kf a.toNat then kf a.toNat else kf a.toNat ++ [b]))) = H2 at hk1 hdb hfa2
      have kp2 : Kp (fun b => b ∈ das) Hs H2 := by
        rw [← hH2]
        exact kp.mut ma
      have hl2 : ∀ m, (addK kf a.toNat b m).length ≤ 2 * i + 1 := fun m => by
        have := hkl m
        unfold addK
        split
        · split
          · omega
          · rw [List.length_append, List.length_singleton]; omega
        · omega
      refine ⟨.ref fa, rfl, .int b, rfl, fa, _, b, .ref das[b.toNat], rfl, rfl, sq_of hfa2, ix b _ (by omega) hgb, .int a, rfl, das[b.toNat], _, rfl, DPut.k (k := .inl a) hdb (sz_lt (by have := hl2 b.toNat; rw [mkK, List.length_map]; omega)), ?_⟩
      rw [putK_mkK]
      refine ⟨kp2.mut mb, ⟨_, _, rfl⟩, addK (addK kf a.toNat b) b.toNat a, dicts_put hdn hk1 hgb, KOk.add ok h0 hab hbn, fun m => ?_⟩
      have := hl2 m
      show (addK _ _ _ _).length ≤ _
      rw [addK]
      split
      · split
        · omega
        · rw [List.length_append, List.length_singleton]; omega
      · omega
    · rintro Hs σ' H' es ⟨kp, ⟨y3, y4, rfl⟩, kf, hk, ok, hkl⟩
      have hfa' := kp _ _ nf2 (es _ _ hfa)
      have ex : Ex H H' := fun b o hb => kp b o (fun z => by rw [(hd b z).1] at hb; cases hb) ((e1.trans es) b o hb)
      have pfa : Paired (rAt das H') (das.map V.ref) (List.range n) := by
        rw [← hdl]
        exact at_pairs das H'
      refine s_retD (evn_tuple st_row (evn_lc0 (R := rAt das) (R2 := rRow) (g := rowOf n kf) (src_lstK st_at mok0 (ev_var rfl) hfa' (fun z => z) pfa) st_row (by rw [List.length_range]; omega) (fun _ => rfl) fun H2 x i e2 hi ⟨a, hia, ex2⟩ => ?_).d).d fun x H2 e2 hx => q H2 x _ (ex.trans e2) (KOk.web ok h1 (by omega)) hx
      subst ex2
      have hin := List.mem_range.mp hi
      intro H3 e3 Q3 q3
      have hda := (e2.trans e3) _ _ (hk i a hia)
      refine ⟨.ref a, rfl, a, mkK (kf i), rfl, hda, fun l nl => ⟨l, kf i, rfl, sq_of (by rw [upd_same, mkK, List.map_map] <;> rfl), fun ns' p hp hs np => ⟨p, _, rfl, .inl ⟨sq_of upd_same, fun r nr => q3 _ _ (((Ex.new nl).trans (Ex.new np)).trans (Ex.new nr)) ⟨r, rfl, ?_⟩⟩⟩⟩⟩
      have en : ns' = rowOf n kf i := by
        refine sorted_ext (pw_lt hs (hp.nodup_iff.mpr (ok.row i hin).1)) (rowOf_asc n kf i) fun y => ?_
        rw [hp.mem_iff, mem_rowOf]
        exact ⟨fun h => ⟨(ok.row i hin).2.1 y h, h⟩, fun h => h.2⟩
      rw [upd_same, en]
theorem k_law_web (D : Dn K mg "_law_web" sLawWeb ["_law_row", "_law_most"]) (T : Bt mg) (c__law_taken : Cal P w K mg base 1 "_law_taken" (spTaken K) []) (c__law_by : Cal P w K mg base 1 "_law_by" spBy []) : Cal P w K mg base 2 "_law_web" (spWeb K) [] := by
  refine mkCal D scLawWeb (fun vs H Q E h => ?_) (fun f cdv A outer s H vs Q E hr h => ?_)
  · obtain ⟨ra, sa, ns, rfl, _⟩ := h
    rfl
  · obtain ⟨ra, sa, ns, rfl, lr, sc, q⟩ := h
    refine ⟨_, (pss_cons (ps_par (i := 2) (j := 3) rfl scLawWeb.nd rfl rfl (by decide) rfl rfl (pa_cons (pe_op op_add pe_int (pe_c c__law_taken hr (by decide) (by rfl) (pa_cons (pv 0) (pa_cons (pv 1) pa_nil)))) (pa_cons (pe_lst pa_nil) pa_nil)) (by rfl))
  (pss_cons (ps_set (i := 4) scLawWeb.nd rfl (Or.inr rfl) (pe_op op_add pe_int (pe_c c__law_taken hr (by decide) (by rfl) (pa_cons (pv 0) (pa_cons pe_int pa_nil)))))
  (pss_cons (ps_for PassesOwn.never rfl (pi_range1 (by rfl) T.n_range (pa_cons (pv 2) pa_nil)) (pg_name (i := 5) scLawWeb.nd rfl (by first | exact Or.inl rfl | exact Or.inr rfl))
  (pss_one (ps_set (i := 3) scLawWeb.nd rfl (Or.inl rfl) (pe_op op_cat (pv 3) (pe_lc (own := [("_law_other", 6)]) rfl scLawWeb.nd (pi_range2 (by rfl) T.n_range (pa_cons (pe_op op_add (pv 5) pe_int) (pa_cons (pv 2) pa_nil))) (blkOk_by (own := [("_law_other", 6)]) (by kernel_rfl)) (fun _ _ _ _ _ => (pg_name (i := 6) scLawWeb.nd rfl (by first | exact Or.inl rfl | exact Or.inr rfl))) (fun _ _ _ _ _ => (pts_one (pt_cmpR op_eq (pe_c c__law_taken hr (by decide) (by rfl) (pa_cons (pv 0) (pa_cons (pv 4) pa_nil))) pe_int (nomark _)))) (fun _ _ _ _ _ => (pe_tup (pa_cons (pv 5) (pa_cons (pv 6) pa_nil)))))))))
  (pss_one (ps_ret (pe_c c__law_by hr (by decide) (by rfl) (pa_cons (pv 2) (pa_cons (pv 3) pa_nil)))))))), ?_⟩
    have sc0 := sc
    refine taken (σ := [some (.ref ra), some (.int 6), none, none, none, none, none]) (i := 0) (ra := ra) (sa := sa) (m := 6) rfl lr sc (ev_var rfl) (by decide) (by decide) _ fun H1 x k1 lr1 h0 h1 => ⟨1, x, rfl, rfl, Nat.zero_le _, fun ca nca => ⟨_, _, rfl, ?_⟩⟩
    have e1 : Ex H1 (upd H1 ca (.lst [])) := Ex.new nca
    have hca : (upd H1 ca (.lst [])) ca = some (.lst []) := upd_same
    have hcr : ca ≠ ra := fun z => by
      obtain ⟨i, j, k, h, _⟩ := lr1
      rw [← z, nca] at h
      cases h
    generalize upd H1 ca (.lst []) = H2 at e1 hca
    have lr2 := lr_ex lr1 e1
    have k2 := k1.trans (Kp.of_ex e1)
    have sc2 := scr_kp sc lr k2
    refine q_rare (m := 3) rfl lr2 sc2 ev_c (by decide) (by decide) fun H3 z k3 lr3 h2 h3 => ?_
    have k03 := k2.trans k3
    have hca3 := k3 _ _ hcr hca
    obtain ⟨n, en⟩ : ∃ n : Nat, 1 + x = (n : Int) := ⟨(1 + x).toNat, by omega⟩
    have n1 : 1 ≤ n := by omega
    have n6 : n ≤ 6 := by omega
    refine s_for (R := rI) (M := at1 ra) (src_rng1 (n := 1 + x) (ea_cons (ev_var rfl) ea_nil) (by omega)) (fun Hs i σ' H' => Kp (at1 ra) Hs H' ∧ LR ra sa H' ∧ ∃ cp cs y5, cp ≠ ra ∧ σ' = [some (.ref ra), some (.int 6), some (.int (1 + x)), some (.ref cp), some (.int (2 + z)), y5, none] ∧ rLst rRow H' (.ref cp) cs ∧ cs.length ≤ 6 * i ∧ ∀ c ∈ cs, ∃ a b : Int, c = [a, b] ∧ 0 ≤ a ∧ a < b ∧ b < (n : Int))
      (fun Hs es => ⟨Kp.refl _, lr_ex lr3 es, ca, [], none, hcr, rfl, ⟨ca, [], rfl, es _ _ hca3, .nil⟩, Nat.zero_le _, fun _ h => by cases h⟩) (fun _ _ _ _ h => h.1) ?_ ?_
    · rintro Hs i y one σ' H' es hl ry ⟨kp, lr', cp, cs, y5, hcp, rfl, ⟨cp', cys, ecp, hcl, pcl⟩, hcs, hcc⟩
      obtain rfl : cp = cp' := V.ref.inj ecp
      obtain rfl : y = .int one := ry
      obtain ⟨e0, hi⟩ := rng_get hl
      have kH' := (k03.trans (Kp.of_ex es)).trans kp
      refine ⟨.ref cp, rfl, ?_⟩
      refine lc_row (σ := [some (.ref ra), some (.int 6), some (.int (1 + x)), some (.ref cp), some (.int (2 + z)), some (.int one), none]) (j := 6) (vs := [6]) (R := rI) (R2 := rRow) (ra := ra) (sa := sa) (fun i ms => ms.length ≤ i ∧ ∀ c ∈ ms, ∃ a b : Int, c = [a, b] ∧ 0 ≤ a ∧ a < b ∧ b < (n : Int)) (src_rng2 (lo := one + 1) (n := 1 + x) (ea_cons (ev_op (ev_var (i := 5) rfl) ev_c rv_I0) (ea_cons (ev_var (i := 2) rfl) ea_nil)) (by omega)) st_row lr' (by rw [rng_len]; omega) (fun _ => rfl) ⟨Nat.le_refl _, fun _ h => by cases h⟩ ?_ ?_ st_I _ fun p H2 ms np k2 lr2 hI hlen hms => ?_
      · intro i2 y2 l H4 k4 lr4 hl4 ry4 Q4 q4
        have sc4 := scr_kp sc0 lr (kH'.trans k4)
        refine taken (σ := [some (.ref ra), some (.int 6), some (.int (1 + x)), some (.ref cp), some (.int (2 + z)), some (.int one), some y2]) (i := 0) (ra := ra) (sa := sa) (m := 2 + z) rfl lr4 sc4 (ev_var rfl) (by omega) (by omega) _ fun H5 t k5 lr5 h4 h5 => ⟨rfl, _, rfl, q4 _ H5 k5 lr5 fun _ ms hI => ⟨by have := hI.1; omega, hI.2⟩⟩
      · intro i2 y2 l H4 k4 lr4 hl4 ry4 Q4 q4
        obtain rfl : y2 = .int l := ry4
        obtain ⟨e4, hi4⟩ := rng_get hl4
        refine ⟨.int one, rfl, .int l, rfl, by show 2 ≤ sizeLine; decide, fun t nt => q4 (.ref t) [one, l] _ (Kp.of_ex (Ex.new nt)) (lr_ex lr4 (Ex.new nt)) ⟨t, rfl, upd_same⟩ fun ms hI => ⟨by rw [List.length_append, List.length_singleton]; have := hI.1; omega, fun c hc => ?_⟩⟩
        rcases List.mem_append.mp hc with hc | hc
        · exact hI.2 c hc
        · exact ⟨one, l, List.mem_singleton.mp hc, by omega, by omega, by omega⟩
      · obtain ⟨p', ys, ep, hp, py⟩ := hms
        obtain rfl : p = p' := V.ref.inj ep
        have hcl2 := k2 _ _ hcp hcl
        rw [rng_len] at hlen
        have l1 := Paired.length py
        have l2 := Paired.length pcl
        have hin : i < n := by omega
        refine ⟨cp, p, cys, ys, rfl, rfl, hcl2, hp, sz_of (by omega), fun r nr => ⟨(kp.trans k2).trans (Kp.of_ex (Ex.new nr)), lr_ex lr2 (Ex.new nr), r, cs ++ ms, _, fun z => ?_, rfl, ⟨r, _, rfl, upd_same, ?_⟩, ?_, fun c hc => ?_⟩⟩
        · obtain ⟨_, _, _, h, _⟩ := lr2
          rw [← z, nr] at h
          cases h
        · exact Paired.app' (Paired.st st_row ((k2.tx (lr_mok lr')).trans (Tx.new nr)) pcl) (Paired.st st_row (Tx.new nr) py)
        · rw [List.length_append]
          omega
        · rcases List.mem_append.mp hc with hc | hc
          · exact hcc c hc
          · exact hI.2 c hc
    · rintro Hs σ' H' es ⟨kp, lr', cp, cs, y5, hcp, rfl, hcl, hcs, hcc⟩
      rw [rng_len] at hcs
      exact ⟨_, rfl, _, rfl, n, cp, cs, by rw [← en] <;> rfl, hcl, ⟨by omega, hcc⟩, n1, n6, fun H5 y wb e5 wok hy => q H5 y wb (((k03.trans (Kp.of_ex es)).trans kp).trans (Kp.of_ex e5)) (lr_ex lr' e5) wok hy⟩
end
end K87
set_option Elab.async false
set_option linter.all false
set_option maxRecDepth 100000
set_option maxHeartbeats 4000000
namespace K87
open PySem L2 Evl PyProof.Rows
open C8 (Cal pe_c)
/-! ### the law's web, standing people and prices -/
structure LS (H : Hp) (vw vb vp : V) (wb : Wb) (s : Rw) (pr : List Int) : Prop where
  web : rTup rRow H vw wb
  st : rRow H vb s
  pri : rRow H vp pr
  wok : WebOk wb
  sok : SetOk wb s
  pok : PrOk wb pr 1 30
theorem LS.tx {H H' : Hp} {vw vb vp : V} {wb : Wb} {s : Rw} {pr : List Int} (l : LS H vw vb vp wb s pr) (t : Tx H H') : LS H' vw vb vp wb s pr := ⟨st_tup st_row _ _ _ _ t l.web, st_row _ _ _ _ t l.st, st_row _ _ _ _ t l.pri, l.wok, l.sok, l.pok⟩
theorem LS.args {H : Hp} {vw vb vp vg : V} {wb : Wb} {s go : Rw} {pr : List Int} (l : LS H vw vb vp wb s pr) (hg : rRow H vg go) (h : go.Sublist s) : Args3 H vw vb vg wb s go := ⟨l.web, l.st, hg, l.wok, l.sok, l.sok.sub h⟩
theorem LS.p99 {H : Hp} {vw vb vp : V} {wb : Wb} {s : Rw} {pr : List Int} (l : LS H vw vb vp wb s pr) : PrOk wb pr 0 99 := l.pok.wide (by decide) (by decide)
/-! ### the heavy prices -/
theorem heavy_len {wb : Wb} {pr : List Int} {p : Nat} (hp : PrOk wb pr 1 30) : PrOk wb (pr.set p 99) 0 99 := ⟨by rw [List.length_set]; exact hp.len, fun x hx => by
  rcases List.mem_or_eq_of_mem_set hx with h | h
  · have := hp.rng x h; omega
  · omega⟩
theorem heavy_of {pr : List Int} {p : Nat} (hp : p < pr.length) : Heavy pr (pr.set p 99) (p : Int) 99 := by
  refine ⟨fun x h0 hne => ?_, ?_⟩
  · rw [List.getD_eq_getElem?_getD, List.getD_eq_getElem?_getD, List.getElem?_set_ne (by omega)]
  · rw [Int.toNat_natCast, List.getD_eq_getElem?_getD, List.getElem?_set_self hp] <;> rfl
theorem cut_lo {pr : List Int} {p : Nat} (hp : p < pr.length) : cutV (pr.map V.int) none (some (p : Int)) = (pr.take p).map V.int := by
  unfold cutV
  rw [HT.sIx_none, HT.sIx_nat, List.length_map, List.drop_zero, Nat.sub_zero, Nat.min_eq_left (by omega), List.map_take]
theorem cut_hi {pr : List Int} {p : Nat} (hp : p < pr.length) : cutV (pr.map V.int) (some ((p : Int) + 1)) none = (pr.drop (p + 1)).map V.int := by
  have e : ((p : Int) + 1) = ((p + 1 : Nat) : Int) := by omega
  unfold cutV
  rw [HT.sIx_none, e, HT.sIx_nat, List.length_map, Nat.min_eq_left (by omega), List.map_drop, List.take_of_length_le]
  rw [List.length_drop, List.length_map]
  omega
theorem heavy_eq {pr : List Int} {p : Nat} (hp : p < pr.length) : pr.take p ++ [99] ++ pr.drop (p + 1) = pr.set p 99 := by
  rw [List.set_eq_take_append_cons_drop, if_pos hp, List.append_assoc] <;> rfl
section
variable {K : PySem.W.Frag} {σ : L2.St} {H : Hp} {ta tb tc te : TE} {tA : TA} {tz : TS} {D : Ends} {E : XK} {vw vb vp vg vx : V} {wb : Wb} {s go x : Rw} {pr : List Int} {P P' : V → Hp → Prop}
theorem evd_slice {tl th : TO} {lo hi : Option Int} {ys : List Int} (ha : EvD ta σ H fun v H1 => rRow H1 v pr) (h1 : EvO tl σ H lo) (h2 : EvO th σ H hi) (hc : cutV (pr.map V.int) lo hi = ys.map V.int) : EvD (tSl (rSlA K) ta tl th) σ H fun v H1 => rRow H1 v ys := fun H1 e Q q =>
  ha H1 e _ fun v H2 e2 ⟨a, ev, h⟩ => h1 H2 (e.trans e2) _ fun H3 e3 => h2 H3 ((e.trans e2).trans e3) _ fun H4 e4 => by
    have h4 := (e3.trans e4) _ _ h
    have e14 := (e2.trans e3).trans e4
    refine ⟨a, pr.map V.int, ev, st_of h4, fun hw => ?_, fun _ p np => q _ _ (e14.trans (Ex.new np)) ⟨p, rfl, by rw [upd_same, hc]⟩⟩
    refine q _ _ e14 ⟨a, rfl, ?_⟩
    rw [h4, ← hc]
    unfold cutV
    rw [hw.1, hw.2, List.drop_zero, Nat.sub_zero, List.take_of_length_le (Nat.le_refl _)]
theorem evd_catR {xs ys : List Int} (ha : EvD ta σ H fun v H1 => rRow H1 v xs) (hb : EvD tb σ H fun v H1 => rRow H1 v ys) (hl : xs.length + ys.length ≤ 1000) : EvD (tOp (rCatA K) ta tb) σ H fun v H1 => rRow H1 v (xs ++ ys) := fun H1 e Q q =>
  ha H1 e _ fun v H2 e2 ⟨a, ev, h⟩ => hb H2 (e.trans e2) _ fun u H3 e3 ⟨b, eu, h3⟩ => by
    have ha3 := e3 _ _ h
    have e23 := e2.trans e3
    refine ⟨a, b, _, _, ev, eu, st_of ha3, st_of h3, by rw [List.length_map, List.length_map]; exact sz_of (by omega), fun hx => ?_, fun _ hy => ?_, fun _ _ p np => q _ _ (e23.trans (Ex.new np)) ⟨p, rfl, by rw [upd_same, List.map_append]⟩⟩
    · have z := List.map_eq_nil_iff.mp hx
      subst z
      exact q _ _ e23 ⟨b, rfl, h3⟩
    · have z := List.map_eq_nil_iff.mp hy
      subst z
      exact q _ _ e23 ⟨a, rfl, by rw [List.append_nil]; exact ha3⟩
theorem et_testD {b : Bool} (h : EvD te σ H fun v _ => v = .bl b) : EvT (tTest te) σ H b := et_test (ev_of h fun _ _ _ e => e)
theorem ev_chain {a b c : Int} (h1 : Ev ta σ H (.int a)) (h2 : Ev tb σ H (.int b)) (h3 : Ev tc σ H (.int c)) (h4 : a ≤ b) (h5 : b ≤ c) : Ev (tChain (rI0 fun i j => .bl (decide (i ≤ j))) (rI0 fun i j => .bl (decide (i ≤ j))) ta tb tc) σ H (.bl true) := fun H1 e Q q =>
  h1 H1 e _ fun H2 e2 => h2 H2 (e.trans e2) _ fun H3 e3 => ⟨a, b, rfl, rfl, true, by show V.bl (decide (a ≤ b)) = _; rw [decide_eq_true h4], by
    rw [if_pos rfl]
    exact h3 H3 ((e.trans e2).trans e3) _ fun H4 e4 => ⟨b, c, rfl, rfl, by show Q (V.bl (decide (b ≤ c))) H4; rw [decide_eq_true h5]; exact q H4 ((e2.trans e3).trans e4)⟩⟩
/-! assignments -/
theorem r_cb1 {r : List V → Hp → VK → Prop} {Q : VK} (h : te σ H fun v H1 => r [v] H1 Q) : tCB r (tCons te tNil) σ H Q := h
theorem q_two2 {i j n : Nat} (h : ta σ H fun x H1 => tb σ H1 fun y H2 => [x, y].length ≤ sizeLine ∧ ∀ t, H2 t = none → gTup K n (gCons (gName i) (gCons (gName j) gNil)) (.ref t) σ (upd H2 t (.tup [x, y])) (tz D)) : tSeq (tAsg (tTup (tCons ta (tCons tb tNil))) (gTup K n (gCons (gName i) (gCons (gName j) gNil)))) tz D σ H := h
theorem two_end {i j n : Nat} {x y : V} (hn : n = 2) (k : ∀ H1, Ex H H1 → tz D ((σ.set i (some x)).set j (some y)) H1) : [x, y].length ≤ sizeLine ∧ ∀ t, H t = none → gTup K n (gCons (gName i) (gCons (gName j) gNil)) (.ref t) σ (upd H t (.tup [x, y])) (tz D) :=
  ⟨by show 2 ≤ sizeLine; decide, fun t nt => ⟨t, [x, y], rfl, st_of upd_same, hn.symm, x, [y], rfl, y, [], rfl, rfl, k _ (Ex.new nt)⟩⟩
theorem q_par2 {i j : Nat} {Pa Pb : V → Hp → Prop} (ha : EvD ta σ H Pa) (hb : EvD tb σ H Pb) (k : ∀ x H1 y H2, Ex H H1 → Pa x H1 → Ex H1 H2 → Pb y H2 → tz D ((σ.set i (some x)).set j (some y)) H2) : tSeq (tPar i j (tCons ta (tCons tb tNil))) tz D σ H :=
  ha H (Ex.refl _) _ fun x H1 e1 px => hb H1 e1 _ fun y H2 e2 py => ⟨x, y, rfl, k x H1 y H2 e1 px e2 py⟩
theorem q_pair {i j n : Nat} {Pd : Int × List Int → Prop} (hn : n = 2) (h : EvD te σ H fun y H2 => ∃ d, rPair H2 y d ∧ Pd d) (k : ∀ (c : Int) (r : List Int) u H1, Ex H H1 → Pd (c, r) → rRow H1 u r → tz D ((σ.set i (some (.int c))).set j (some u)) H1) : tSeq (tAsg te (gTup K n (gCons (gName i) (gCons (gName j) gNil)))) tz D σ H :=
  h H (Ex.refl _) _ fun y H1 e1 ⟨⟨c, r⟩, ⟨t, u, ey, ht, hu⟩, hd⟩ => ⟨t, _, ey, st_of ht, hn.symm, _, _, rfl, _, _, rfl, rfl, k c r (.ref u) H1 e1 hd ⟨u, rfl, hu⟩⟩
theorem q_taken {ra sa : Addr} {i r : Nat} {m : Int} {ns : List Int} (hσ : σ[i]? = some (some (.ref ra))) (lr : LR ra sa H) (sc : Scr K sa ns H) (hb : Ev tb σ H (.int m)) (h1 : 1 ≤ m) (h2 : m ≤ 1000) (q : ∀ H2 x, Kp (at1 ra) H H2 → LR ra sa H2 → 0 ≤ x → x < m → tz D (σ.set r (some (.int x))) H2) :
    tSeq (tAsg (tCall (spTaken K) [] E (tCons (tVar i) (tCons tb tNil))) (gName r)) tz D σ H :=
  taken (i := i) (ra := ra) (sa := sa) (m := m) (tb := tb) (E := E) hσ lr sc hb h1 h2 _ fun H2 x k l a b => q H2 x k l a b
/-! the calls -/
theorem ev_worth (hA : EvA tA σ H [vw, vx, vp]) (l : LS H vw vb vp wb s pr) (hx : rRow H vx x) (ok : SetOk wb x) : Ev (tCall spWorth [] E tA) σ H (.int (wt pr x)) :=
  ev_call hA fun H2 e2 Q q E2 => ⟨vw, vx, vp, wb, x, pr, rfl, (l.tx (Ex.tx e2)).web, st_row _ _ _ _ (Ex.tx e2) hx, (l.tx (Ex.tx e2)).pri, l.wok, ok, l.p99, q⟩
theorem evd_cheap {ph : List Int} {vh : V} (hA : EvA tA σ H [vw, vb, vg, vh]) (l : LS H vw vb vp wb s pr) (hg : rRow H vg go) (sub : go.Sublist s) (hf : fits wb s go = true) (hh : rRow H vh ph) (pk : PrOk wb ph 0 99) : EvD (tCall spCheap [] E tA) σ H fun y H2 => ∃ d, rPair H2 y d ∧ Best wb s go ph d.1 d.2 :=
  evd_call hA fun H2 e2 Q q => ⟨vw, vb, vg, vh, wb, s, go, ph, rfl, (l.args hg sub).tx (Ex.tx e2), hf, st_row _ _ _ _ (Ex.tx e2) hh, pk, fun y H3 d e3 hp hb => q y H3 e3 ⟨d, hp, hb⟩⟩
theorem evd_fst {Pd : Int × List Int → Prop} (h : EvD te σ H fun y H2 => ∃ d, rPair H2 y d ∧ Pd d) : EvD (tOp (rIxT K) te (tC (.int 0))) σ H fun v _ => ∃ c r, v = .int c ∧ Pd (c, r) := fun H1 e Q q =>
  h H1 e _ fun y H2 e2 ⟨⟨c, r⟩, ⟨t, u, ey, ht, hu⟩, hd⟩ => ⟨t, _, 0, .int c, ey, rfl, st_of ht, rfl, q _ H2 e2 ⟨c, r, rfl, hd⟩⟩
theorem evn_tight (hA : EvA tA σ H [vw, vb, vg]) (a : Args3 H vw vb vg wb s go) (hf : fits wb s go = true) : EvN (tCall spTight [] E tA) σ H fun v H2 => ∃ F, Tight wb s go F ∧ rLst rRow H2 v F :=
  evn_call hA fun H2 e2 Q q => ⟨vw, vb, vg, wb, s, go, rfl, a.tx (Ex.tx e2), hf, fun p H3 F np e3 hF hl => q p H3 np e3 ⟨F, hF, hl⟩⟩
theorem evn_telling (hA : EvA tA σ H [vw, vb, vg]) (a : Args3 H vw vb vg wb s go) (hf : fits wb s go = true) : EvN (tCall spTelling [] E tA) σ H fun v H2 => ∃ T, Tells wb s go T ∧ rLst rRow H2 v T :=
  evn_call hA fun H2 e2 Q q => ⟨vw, vb, vg, wb, s, go, rfl, a.tx (Ex.tx e2), hf, fun p H3 F np e3 hF hl => q p H3 np e3 ⟨F, hF, hl⟩⟩
theorem evn_must (hA : EvA tA σ H [vw, vb, vg]) (a : Args3 H vw vb vg wb s go) (hf : fits wb s go = true) : EvN (tCall spMust [] E tA) σ H fun v H2 => ∃ T, Tells wb s go T ∧ rRow H2 v (mustIn s T) :=
  evn_call hA fun H2 e2 Q q => ⟨vw, vb, vg, wb, s, go, rfl, a.tx (Ex.tx e2), hf, fun p H3 T np e3 hT hl => q p H3 np e3 ⟨T, hT, hl⟩⟩
theorem evn_callers (hA : EvA tA σ H [vw, vb, vg]) (a : Args3 H vw vb vg wb s go) (hf : fits wb s go = true) : EvN (tCall spCallers [] E tA) σ H fun v H2 => rRow H2 v (mayCall wb s go) :=
  evn_call hA fun H2 e2 Q q => ⟨vw, vb, vg, wb, s, go, rfl, a.tx (Ex.tx e2), hf, fun p H3 np e3 hl => q p H3 np e3 hl⟩
theorem evn_told (hA : EvA tA σ H [vw, vb, vg]) (a : Args3 H vw vb vg wb s go) : EvN (tCall spTold [] E tA) σ H fun v H2 => rRow H2 v (toldIn wb s go) :=
  evn_call hA fun H2 e2 Q q => ⟨vw, vb, vg, wb, s, go, rfl, a.tx (Ex.tx e2), fun p H3 np e3 hl => q p H3 np e3 hl⟩
theorem evd_distance (hA : EvA tA σ H [vw, vb, vg]) (a : Args3 H vw vb vg wb s go) (hf : fits wb s go = true) : EvD (tCall spDistance [] E tA) σ H fun v _ => ∃ m, v = .int m ∧ ∀ r, Tell wb s go r → m ≤ (r.length : Int) :=
  evd_call hA fun H2 e2 Q q => ⟨vw, vb, vg, wb, s, go, rfl, a.tx (Ex.tx e2), hf, fun H3 m e3 hm => q _ H3 e3 ⟨m, rfl, hm⟩⟩
theorem evn_ends (hA : EvA tA σ H [vw, vb]) (l : LS H vw vb vp wb s pr) : EvN (tCall spEnds [] E tA) σ H fun v H2 => ∃ T, EndsL wb s T ∧ rLst rRow H2 v T :=
  evn_call hA fun H2 e2 Q q => ⟨vw, vb, wb, s, rfl, (l.tx (Ex.tx e2)).web, (l.tx (Ex.tx e2)).st, l.wok, l.sok, fun p H3 T np e3 hT hl => q p H3 np e3 ⟨T, hT, hl⟩⟩
theorem evn_reached (hA : EvA tA σ H [vw, vb]) (l : LS H vw vb vp wb s pr) : EvN (tCall spReached [] E tA) σ H fun v H2 => ∃ T, rLst rRow H2 v T ∧ T ≠ [] ∧ (∀ r ∈ T, Reach wb s r) ∧ T.length ≤ 128 :=
  evn_call hA fun H2 e2 Q q => ⟨vw, vb, wb, s, rfl, (l.tx (Ex.tx e2)).web, (l.tx (Ex.tx e2)).st, l.wok, l.sok, fun p H3 T np e3 h1 h2 h3 h4 => q p H3 np e3 ⟨T, h1, h2, h3, h4⟩⟩
theorem ev_can (hA : EvA tA σ H [vw, vb, vg]) (a : Args3 H vw vb vg wb s go) : Ev (tCall spCan [] E tA) σ H (.bl (fits wb s go)) :=
  ev_call hA fun H2 e2 Q q E2 => ⟨vw, vb, vg, wb, s, go, rfl, a.tx (Ex.tx e2), q⟩
theorem evd_cheapEnd (hA : EvA tA σ H [vw, vb, vp]) (l : LS H vw vb vp wb s pr) : EvD (tCall spCheapEnd [] E tA) σ H fun y H2 => ∃ d : Int × List Int, rPair H2 y d ∧ (IsEnd wb s d.2 ∧ (∃ row, Best wb s d.2 pr d.1 row) ∧ ∀ e c row, IsEnd wb s e → Best wb s e pr c row → d.1 ≤ c) :=
  evd_call hA fun H2 e2 Q q => ⟨vw, vb, vp, wb, s, pr, rfl, (l.tx (Ex.tx e2)).web, (l.tx (Ex.tx e2)).st, (l.tx (Ex.tx e2)).pri, l.wok, l.sok, l.p99, fun y H3 d e3 h1 h2 h3 h4 => q y H3 e3 ⟨d, h1, h2, h3, h4⟩⟩
/-- a set is picked from the reached ones -/
theorem q_pick {ra sa : Addr} {i r : Nat} {ns : List Int} {E2 : XK} (hσ : σ[i]? = some (some (.ref ra))) (lr : LR ra sa H) (sc : Scr K sa ns H) (hA : EvA tA σ H [vw, vb]) (l : LS H vw vb vp wb s pr) (q : ∀ H2 x g, Kp (at1 ra) H H2 → LR ra sa H2 → Reach wb s g → rRow H2 x g → tz D (σ.set r (some x)) H2) :
    tSeq (tAsg (tCall (spPick K) [] E (tCons (tVar i) (tCons (tCall spReached [] E2 tA) tNil))) (gName r)) tz D σ H :=
  ⟨.ref ra, hσ, evn_reached hA l H (Ex.refl _) _ fun p H2 np e2 ⟨T, h1, h2, h3, h4⟩ => ⟨ra, sa, ns, p, T, rfl, lr_ex lr e2, ⟨ex_l e2 sc.1, sc.2⟩, h1, (fun z => by
    obtain ⟨_, _, _, h, _⟩ := lr
    rw [← z, np] at h
    cases h), h2, h4, fun H3 x r k3 lr3 hr hx => q H3 x r ((Kp.of_ex e2).trans k3) lr3 (h3 r hr) hx⟩⟩
/-! in lists that are told by a law -/
theorem ev_niX {r : List Int} {Pr : List (List Int) → Prop} (ha : EvD ta σ H fun v H1 => rRow H1 v r) (hb : EvD tb σ H fun v H1 => ∃ L, Pr L ∧ rLst rRow H1 v L) (hr : ∀ L, Pr L → r ∈ L) : Ev (tOp (rNotInD K) ta tb) σ H (.bl false) := fun H1 e Q q =>
  ha H1 e _ fun x H2 e2 px => hb H2 (e.trans e2) _ fun y H3 e3 ⟨L, hL, py⟩ => ⟨dRow r, L.map dRow, dp_row (st_row _ _ _ _ (Ex.tx e3) px), dp_rows py, sh_row r, sh_rows L, by
    rw [any_rows, decide_eq_true (hr L hL)]
    exact q H3 (e2.trans e3)⟩
theorem ev_inX {r : List Int} {Pr : List (List Int) → Prop} (ha : EvD ta σ H fun v H1 => rRow H1 v r) (hb : EvD tb σ H fun v H1 => ∃ L, Pr L ∧ rLst rRow H1 v L) (hr : ∀ L, Pr L → r ∈ L) : Ev (tOp (rInD K) ta tb) σ H (.bl true) := fun H1 e Q q =>
  ha H1 e _ fun x H2 e2 px => hb H2 (e.trans e2) _ fun y H3 e3 ⟨L, hL, py⟩ => ⟨dRow r, L.map dRow, dp_row (st_row _ _ _ _ (Ex.tx e3) px), dp_rows py, sh_row r, sh_rows L, by
    rw [any_rows, decide_eq_true (hr L hL)]
    exact q H3 (e2.trans e3)⟩
/-! == (0, ()) -/
theorem sh_pair (d : Int × List Int) : SeqAt.shaped (dPair d) = true := by
  have h := lay_row d.2
  refine shaped_of ?_ ?_
  · simp [dPair, PyData.canLay0, PyData.canLayAll0, h.1]
  · simp [dPair, PyData.depth, PyData.depthAll, h.2]
theorem eqv_pair (d : Int × List Int) : PyData.eqv (dPair d) (dPair d) = true := by
  have h : PyData.eqv (dRow d.2) (dRow d.2) = true := by rw [eqv_row]; exact decide_eq_true rfl
  simp [dPair, PyData.eqv, PyData.eqvAll, h]
theorem ev_eqPair {d0 : Int × List Int} {Pd : Int × List Int → Prop} (ha : EvD ta σ H fun y H2 => ∃ d, rPair H2 y d ∧ Pd d) (hb : EvD tb σ H fun v H1 => rPair H1 v d0) (hd : ∀ d, Pd d → d = d0) : Ev (tOp (rEqD K) ta tb) σ H (.bl true) := fun H1 e Q q =>
  ha H1 e _ fun x H2 e2 ⟨d, px, pd⟩ => hb H2 (e.trans e2) _ fun y H3 e3 py => ⟨dPair d, dPair d0, dp_pair (st_pair _ _ _ _ (Ex.tx e3) px), dp_pair py, sh_pair _, sh_pair _, by
    rw [hd d pd, eqv_pair]
    exact q H3 (e2.trans e3)⟩
theorem evd_zero : EvD (tTup (tCons (tC (.int 0)) (tCons (tTup tNil) tNil))) σ H fun v H1 => rPair H1 v (0, []) := fun H1 e Q q =>
  ⟨Nat.zero_le _, fun u nu => ⟨by show 2 ≤ sizeLine; decide, fun t nt => q _ _ ((Ex.new nu).trans (Ex.new nt)) ⟨t, u, rfl, upd_same, (Ex.new nt) _ _ upd_same⟩⟩⟩
/-! the least price of all ends -/
def rCost (wb : Wb) (s : Rw) (pr : List Int) : Rep Rw := fun _ v e => ∃ c row, v = .int c ∧ Best wb s e pr c row
theorem st_cost : Stab (rCost wb s pr) := fun _ _ _ _ _ h => h
theorem cost_ns {H : Hp} : ∀ {ys : List V} {L : List Rw}, Paired (rCost wb s pr H) ys L → ∃ ns : List Int, ys = ns.map V.int ∧ (∀ n ∈ ns, ∃ e ∈ L, ∃ row, Best wb s e pr n row) ∧ ∀ e ∈ L, ∃ n ∈ ns, ∃ row, Best wb s e pr n row
  | _, _, .nil => ⟨[], rfl, (fun _ h => by cases h), (fun _ h => by cases h)⟩
  | _, _, .cons ⟨c, row, ev, b⟩ t => by
    obtain ⟨ns, h1, h2, h3⟩ := cost_ns t
    refine ⟨c :: ns, by rw [List.map_cons, ← h1, ev], fun n hn => ?_, fun e he => ?_⟩
    · rcases List.mem_cons.mp hn with rfl | hn
      · exact ⟨_, by simp, row, b⟩
      · obtain ⟨e, he, h⟩ := h2 n hn
        exact ⟨e, List.mem_cons_of_mem _ he, h⟩
    · rcases List.mem_cons.mp he with rfl | he
      · exact ⟨c, by simp, row, b⟩
      · obtain ⟨n, hn, h⟩ := h3 e he
        exact ⟨n, List.mem_cons_of_mem _ hn, h⟩
end
end K87
set_option Elab.async false
set_option linter.all false
set_option maxRecDepth 100000
set_option maxHeartbeats 4000000
namespace K87
open PySem L2 Evl PyProof.Rows
open C8 (Cal pe_c)
section
variable {P : Program} {w : World} {K : PySem.W.Frag} {mg : Str → Option Value} {base : Heap}
theorem evd_99 {σ : L2.St} {H : Hp} : EvD (tTup (tCons (tC (.int 99)) tNil)) σ H fun v H1 => rRow H1 v [99] := fun H1 e Q q => ⟨by show 1 ≤ sizeLine; decide, fun t nt => q _ _ (Ex.new nt) ⟨t, rfl, upd_same⟩⟩
def spLaw (K : PySem.W.Frag) : Sp := fun vs H Q _ => ∃ (a : Addr) (ns : List Int), vs = [.ref a] ∧ SqL K H a (ns.map V.int) ∧ ns.length ≤ 63 ∧ ∀ H', Q (.bl true) H'
theorem k_law {f : Addr} {fd : FuncData} (F : Fun K "law" "law" sLaw f fd) (T : Bt mg) (c__law_web : Cal P w K mg base 2 "_law_web" (spWeb K) []) (c__law_up : Cal P w K mg base 2 "_law_up" (spUp K) []) (c__law_taken : Cal P w K mg base 1 "_law_taken" (spTaken K) []) (c__law_pick : Cal P w K mg base 2 "_law_pick" (spPick K) [])
    (c_reached : Cal P w K mg base 5 "reached" spReached []) (c_cheapest_telling : Cal P w K mg base 7 "cheapest_telling" spCheap []) (c_must_call : Cal P w K mg base 7 "must_call" spMust []) (c_callers : Cal P w K mg base 7 "callers" spCallers []) (c_worth : Cal P w K mg base 5 "worth" spWorth [])
    (c_tight_telling : Cal P w K mg base 7 "tight_telling" spTight []) (c_told : Cal P w K mg base 5 "told" spTold []) (c_distance : Cal P w K mg base 7 "distance" spDistance []) (c_telling : Cal P w K mg base 7 "telling" spTelling []) (c_can_come : Cal P w K mg base 6 "can_come" spCan []) (c_cheapest_end : Cal P w K mg base 5 "cheapest_end" spCheapEnd []) (c_ends : Cal P w K mg base 5 "ends" spEnds []) : FnOk P w K mg base CX0 8 f fd ["_law_script"] (spLaw K) := by
  refine F.ok scLaw (fun vs H Q E h => ?_) (fun cdv A outer s H vs Q E hr h => ?_)
  · obtain ⟨a, ns, rfl, _⟩ := h
    rfl
  · obtain ⟨a, ns, rfl, hs, h63, q⟩ := h
    refine ⟨_, (pss_cons (ps_set (i := 1) scLaw.nd rfl (Or.inr rfl) (pe_lst (pa_cons (pv 0) (pa_cons pe_int (pa_cons pe_int (pa_cons pe_int pa_nil))))))
  (pss_cons (ps_set (i := 2) scLaw.nd rfl (Or.inr rfl) (pe_c c__law_web hr (by decide) (by rfl) (pa_cons (pv 1) (pa_cons pe_int pa_nil))))
  (pss_cons (ps_asg (pe_tup (pa_cons (pe_c c__law_up hr (by decide) (by rfl) (pa_cons (pv 1) (pa_cons (pv 2) pa_nil))) (pa_cons (pe_callTy (tupleK K) (by rfl) T.n_tuple (by decide +kernel) (pa_cons (pe_lc (own := [("_law_one", 18)]) rfl scLaw.nd (pi_tupK K (pv 2)) (blkOk_by (own := [("_law_one", 18)]) (by kernel_rfl)) (fun _ _ _ _ _ => (pg_name (i := 18) scLaw.nd rfl (by first | exact Or.inl rfl | exact Or.inr rfl))) (fun _ _ _ _ _ => pts_nil) (fun _ _ _ _ _ => (pe_op op_add pe_int (pe_c c__law_taken hr (by decide) (by rfl) (pa_cons (pv 1) (pa_cons pe_int pa_nil)))))) pa_nil)) pa_nil))) (pg_tup rfl (pgs_cons (pg_name (i := 3) scLaw.nd rfl (by first | exact Or.inl rfl | exact Or.inr rfl)) (pgs_cons (pg_name (i := 4) scLaw.nd rfl (by first | exact Or.inl rfl | exact Or.inr rfl)) pgs_nil))))
  (pss_cons (ps_set (i := 5) scLaw.nd rfl (Or.inl rfl) (pe_c c__law_pick hr (by decide) (by rfl) (pa_cons (pv 1) (pa_cons (pe_c c_reached hr (by decide) (by rfl) (pa_cons (pv 2) (pa_cons (pv 3) pa_nil))) pa_nil))))
  (pss_cons (ps_asg (pe_c c_cheapest_telling hr (by decide) (by rfl) (pa_cons (pv 2) (pa_cons (pv 3) (pa_cons (pv 5) (pa_cons (pv 4) pa_nil))))) (pg_tup rfl (pgs_cons (pg_name (i := 6) scLaw.nd rfl (by first | exact Or.inl rfl | exact Or.inr rfl)) (pgs_cons (pg_name (i := 7) scLaw.nd rfl (by first | exact Or.inl rfl | exact Or.inr rfl)) pgs_nil))))
  (pss_cons (ps_par (i := 8) (j := 9) rfl scLaw.nd rfl rfl (by decide) rfl rfl (pa_cons (pe_c c_must_call hr (by decide) (by rfl) (pa_cons (pv 2) (pa_cons (pv 3) (pa_cons (pv 5) pa_nil)))) (pa_cons (pe_c c_callers hr (by decide) (by rfl) (pa_cons (pv 2) (pa_cons (pv 3) (pa_cons (pv 5) pa_nil)))) pa_nil)) (by rfl))
  (pss_cons (ps_if (pt_not (pt_chain op_le op_le (pe_c c_worth hr (by decide) (by rfl) (pa_cons (pv 2) (pa_cons (pv 8) (pa_cons (pv 4) pa_nil)))) (pv 6) (pe_c c_worth hr (by decide) (by rfl) (pa_cons (pv 2) (pa_cons (pv 9) (pa_cons (pv 4) pa_nil)))))) (pss_one (ps_ret pe_bl)) pss_nil)
  (pss_cons (ps_if (pt_cmpR (notInDK K (room65 hr)) (pv 7) (pe_c c_tight_telling hr (by decide) (by rfl) (pa_cons (pv 2) (pa_cons (pv 3) (pa_cons (pv 5) pa_nil)))) (by rfl)) (pss_one (ps_ret pe_bl)) pss_nil)
  (pss_cons (ps_if (pt_cmpR (neDK K hr.units) (pe_lc (own := [("_law_one", 18)]) rfl scLaw.nd (pi_tupK K (pv 8)) (blkOk_by (own := [("_law_one", 18)]) (by kernel_rfl)) (fun _ _ _ _ _ => (pg_name (i := 18) scLaw.nd rfl (by first | exact Or.inl rfl | exact Or.inr rfl))) (fun _ _ _ _ _ => (pts_one (pt_cmpR (notIn_seqK K) (pv 18) (pv 7) (by rfl)))) (fun _ _ _ _ _ => (pv 18))) (pe_lst pa_nil) (nomark _)) (pss_one (ps_ret pe_bl)) pss_nil)
  (pss_cons (ps_if (PW.pt (pw_or (pt_cmpR (neDK K hr.units) (pe_c c_told hr (by decide) (by rfl) (pa_cons (pv 2) (pa_cons (pv 3) (pa_cons (pv 7) pa_nil)))) (pv 5) (nomark _)) (pw_or1 (pt_cmpR op_lt (pv 6) (pe_c c_distance hr (by decide) (by rfl) (pa_cons (pv 2) (pa_cons (pv 3) (pa_cons (pv 5) pa_nil)))) (nomark _))))) (pss_one (ps_ret pe_bl)) pss_nil)
  (pss_cons (ps_if (pt_cmpR op_ne (pe_c c_worth hr (by decide) (by rfl) (pa_cons (pv 2) (pa_cons (pv 7) (pa_cons (pv 4) pa_nil)))) (pv 6) (nomark _)) (pss_one (ps_ret pe_bl)) pss_nil)
  (pss_cons (ps_for PassesOwn.never rfl (pi_listK K (pe_c c_telling hr (by decide) (by rfl) (pa_cons (pv 2) (pa_cons (pv 3) (pa_cons (pv 5) pa_nil))))) (pg_name (i := 10) scLaw.nd rfl (by first | exact Or.inl rfl | exact Or.inr rfl))
  (pss_one (ps_if (pt_cmpR op_lt (pe_c c_worth hr (by decide) (by rfl) (pa_cons (pv 2) (pa_cons (pv 10) (pa_cons (pv 4) pa_nil)))) (pv 6) (nomark _)) (pss_one (ps_ret pe_bl)) pss_nil)))
  (pss_cons (ps_set (i := 11) scLaw.nd rfl (Or.inl rfl) (pe_c c__law_taken hr (by decide) (by rfl) (pa_cons (pv 1) (pa_cons (pe_callB (lenK K) (by rfl) T.n_len (by decide +kernel) (pa_cons (pv 2) pa_nil)) pa_nil))))
  (pss_cons (ps_set (i := 12) scLaw.nd rfl (Or.inl rfl) (pe_op (catAK K) (pe_op (catAK K) (pe_slice (slAK K) (pv 4) po_none (po_some (pv 11))) (pe_tup (pa_cons pe_int pa_nil))) (pe_slice (slAK K) (pv 4) (po_some (pe_op op_add (pv 11) pe_int)) po_none)))
  (pss_cons (ps_set (i := 13) scLaw.nd rfl (Or.inl rfl) (pe_ix (ixTK K) (pe_c c_cheapest_telling hr (by decide) (by rfl) (pa_cons (pv 2) (pa_cons (pv 3) (pa_cons (pv 5) (pa_cons (pv 12) pa_nil))))) pe_int (fun _ _ => rfl)))
  (pss_cons (ps_if (PW.pt (pw_or (pt_cmpR op_lt (pv 13) (pv 6) (nomark _)) (pw_or (PW.pt (pw_and (pt_cmpR (in_seqK K) (pv 11) (pv 8) (by rfl)) (pw_and1 (pt_cmpR op_ne (pv 13) (pe_op op_add (pe_op op_sub (pv 6) (pe_ix (ixTK K) (pv 4) (pv 11) (fun _ _ => rfl))) pe_int) (nomark _))))) (pw_or1 (PW.pt (pw_and (pt_cmpR (notIn_seqK K) (pv 11) (pv 9) (by rfl)) (pw_and1 (pt_cmpR op_ne (pv 13) (pv 6) (nomark _))))))))) (pss_one (ps_ret pe_bl)) pss_nil)
  (pss_cons (ps_set (i := 14) scLaw.nd rfl (Or.inr rfl) (pe_c c__law_pick hr (by decide) (by rfl) (pa_cons (pv 1) (pa_cons (pe_c c_reached hr (by decide) (by rfl) (pa_cons (pv 2) (pa_cons (pv 3) pa_nil))) pa_nil))))
  (pss_cons (ps_set (i := 15) scLaw.nd rfl (Or.inl rfl) (pe_callTy (tupleK K) (by rfl) T.n_tuple (by decide +kernel) (pa_cons (pe_lc (own := [("_law_one", 18)]) rfl scLaw.nd (pi_tupK K (pv 5)) (blkOk_by (own := [("_law_one", 18)]) (by kernel_rfl)) (fun _ _ _ _ _ => (pg_name (i := 18) scLaw.nd rfl (by first | exact Or.inl rfl | exact Or.inr rfl))) (fun _ _ _ _ _ => (pts_one (pt_cmpR (in_seqK K) (pv 18) (pv 14) (by rfl)))) (fun _ _ _ _ _ => (pv 18))) pa_nil)))
  (pss_cons (ps_if (pt_cmpR op_gt (pe_ix (ixTK K) (pe_c c_cheapest_telling hr (by decide) (by rfl) (pa_cons (pv 2) (pa_cons (pv 3) (pa_cons (pv 15) (pa_cons (pv 4) pa_nil))))) pe_int (fun _ _ => rfl)) (pe_op op_add (pv 6) (pe_ix (ixTK K) (pe_c c_cheapest_telling hr (by decide) (by rfl) (pa_cons (pv 2) (pa_cons (pv 3) (pa_cons (pv 14) (pa_cons (pv 4) pa_nil))))) pe_int (fun _ _ => rfl))) (nomark _)) (pss_one (ps_ret pe_bl)) pss_nil)
  (pss_cons (ps_if (pt_not (pt_val (pe_c c_can_come hr (by decide) (by rfl) (pa_cons (pv 2) (pa_cons (pv 3) (pa_cons (pv 15) pa_nil)))))) (pss_one (ps_ret pe_bl)) pss_nil)
  (pss_cons (ps_asg (pe_c c_cheapest_end hr (by decide) (by rfl) (pa_cons (pv 2) (pa_cons (pv 3) (pa_cons (pv 4) pa_nil)))) (pg_tup rfl (pgs_cons (pg_name (i := 16) scLaw.nd rfl (by first | exact Or.inl rfl | exact Or.inr rfl)) (pgs_cons (pg_name (i := 17) scLaw.nd rfl (by first | exact Or.inl rfl | exact Or.inr rfl)) pgs_nil))))
  (pss_cons (ps_if (pt_cmpR op_ne (pv 16) (pe_callB (minK K rfl) (by rfl) T.n_min (by decide +kernel) (pa_cons (pe_lc (own := [("_law_last", 19)]) rfl scLaw.nd (pi_listK K (pe_c c_ends hr (by decide) (by rfl) (pa_cons (pv 2) (pa_cons (pv 3) pa_nil)))) (blkOk_by (own := [("_law_last", 19)]) (by kernel_rfl)) (fun _ _ _ _ _ => (pg_name (i := 19) scLaw.nd rfl (by first | exact Or.inl rfl | exact Or.inr rfl))) (fun _ _ _ _ _ => pts_nil) (fun _ _ _ _ _ => (pe_ix (ixTK K) (pe_c c_cheapest_telling hr (by decide) (by rfl) (pa_cons (pv 2) (pa_cons (pv 3) (pa_cons (pv 19) (pa_cons (pv 4) pa_nil))))) pe_int (fun _ _ => rfl)))) pa_nil)) (nomark _)) (pss_one (ps_ret pe_bl)) pss_nil)
  (pss_cons (ps_if (pt_not (pt_cmpR (inDK K (room65 hr)) (pv 17) (pe_c c_ends hr (by decide) (by rfl) (pa_cons (pv 2) (pa_cons (pv 3) pa_nil))) (by rfl))) (pss_one (ps_ret pe_bl)) pss_nil)
  (pss_one (ps_ret (pe_cmpR (eqDK K hr.units) (pe_c c_cheapest_telling hr (by decide) (by rfl) (pa_cons (pv 2) (pa_cons (pv 3) (pa_cons (pv 3) (pa_cons (pv 4) pa_nil))))) (pe_tup (pa_cons pe_int (pa_cons (pe_tup pa_nil) pa_nil))) (nomark _))))))))))))))))))))))))))), ?_⟩
    refine q_as ?_
    refine ⟨.ref a, rfl, by show 4 ≤ sizeLine; decide, fun ra nra => ?_⟩
    have e1 : Ex H (upd H ra (.lst [.ref a, .int 0, .int 9987, .int 0])) := Ex.new nra
    have lr1 : LR ra a (upd H ra (.lst [.ref a, .int 0, .int 9987, .int 0])) := ⟨0, 9987, 0, upd_same, by decide⟩
    have sc1 : Scr K a ns (upd H ra (.lst [.ref a, .int 0, .int 9987, .int 0])) := ⟨ex_l e1 hs, h63⟩
    generalize upd H ra (.lst [.ref a, .int 0, .int 9987, .int 0]) = H1 at e1 lr1 sc1
    refine q_as ?_
    refine ⟨.ref ra, rfl, ra, a, ns, rfl, lr1, sc1, fun H2 vw wb k2 lr2 wok hw => ?_⟩
    have sc2 := scr_kp sc1 lr1 k2
    refine q_two2 ?_
    refine ⟨.ref ra, rfl, vw, rfl, ra, a, ns, vw, wb, rfl, lr2, sc2, hw, wok, fun H3 vb s k3 lr3 sok hb => ?_⟩
    have sc3 := scr_kp sc2 lr2 k3
    have hw3 := st_tup st_row _ _ _ _ (k3.tx (lr_mok lr2)) hw
    have h7 := wok.le
    refine r_cb1 ?_
    refine lc_row (σ := [some (.ref a), some (.ref ra), some vw, none, none, none, none, none, none, none, none, none, none, none, none, none, none, none, none, none]) (j := 18) (vs := [18]) (R := rRow) (R2 := rI) (ra := ra) (sa := a) (ls := wb) (fun i ms => ms.length = i ∧ ∀ y ∈ ms, 1 ≤ y ∧ y ≤ 30) (src_tup st_row (lr_mok lr3) (evd_var (i := 2) (st_tup st_row) rfl hw3)) st_I lr3 (by omega) (fun _ => rfl) ⟨rfl, fun _ h => by cases h⟩ ?_ ?_ st_row _ fun p H4 ms np k4 lr4 hI hlen hms => ?_
    · intro i x l H4 k4 lr4 hl rx Q4 q4
      exact q4 true H4 (Kp.refl _) lr4 fun z => by cases z
    · intro i x l H4 k4 lr4 hl rx Q4 q4
      refine taken (σ := [some (.ref a), some (.ref ra), some vw, none, none, none, none, none, none, none, none, none, none, none, none, none, none, none, some x, none]) (i := 1) (ra := ra) (sa := a) (m := 30) rfl lr4 (scr_kp sc3 lr3 k4) ev_c (by decide) (by decide) _ fun H5 z k5 lr5 h0 h1 => ⟨1, z, rfl, rfl, q4 _ (1 + z) H5 k5 lr5 rfl fun ms hI => ⟨by rw [List.length_append, hI.1] <;> rfl, fun y hy => ?_⟩⟩
      rcases List.mem_append.mp hy with hy | hy
      · exact hI.2 y hy
      · rw [List.mem_singleton.mp hy]
        omega
    obtain ⟨p', pys, ep, hp, ppy⟩ := hms
    obtain rfl : p = p' := V.ref.inj ep
    refine ⟨p, pys, rfl, .inl ⟨sq_of hp, fun pa npa => ?_⟩⟩
    refine two_end (by rfl) fun H6 e6 => ?_
    have e46 : Ex H4 H6 := (Ex.new npa).trans e6
    have lr6 := lr_ex lr4 e46
    have k36 := k4.trans (Kp.of_ex e46)
    have sc6 := scr_kp sc3 lr3 k36
    have t36 := k36.tx (lr_mok lr3)
    have L6 : LS H6 vw vb (.ref pa) wb s ms := ⟨st_tup st_row _ _ _ _ t36 hw3, st_row _ _ _ _ t36 hb, ⟨pa, rfl, e6 _ _ (by rw [upd_same, ints_of_pi ppy])⟩, wok, sok, ⟨hI.1, hI.2⟩⟩
    generalize V.ref pa = vp at L6
    generalize ms = pr at L6
    have hs7 := set_len wok sok
    refine q_pick rfl lr6 sc6 (ea_cons (ev_var rfl) (ea_cons (ev_var rfl) ea_nil)) L6 fun H7 vg go k7 lr7 hre hg7 => ?_
    have sc7 := scr_kp sc6 lr6 k7
    have L7 := L6.tx (k7.tx (lr_mok lr6))
    have sub := reach_sub hre
    have hf := reach_fits wok sok hre
    have gok := sok.sub sub
    refine q_pair (Pd := fun d => Best wb s go pr d.1 d.2) (by rfl) (evd_cheap (ea_cons (ev_var rfl) (ea_cons (ev_var rfl) (ea_cons (ev_var rfl) (ea_cons (ev_var rfl) ea_nil)))) L7 hg7 sub hf L7.pri L7.p99) fun c pl vu H8 e8 best hu8 => ?_
    have best : Best wb s go pr c pl := best
    have plsub := tell_sub best.tell
    have plok := sok.sub plsub
    have pl7 := set_len wok plok
    have L8 := L7.tx (Ex.tx e8)
    have hg8 := st_row _ _ _ _ (Ex.tx e8) hg7
    refine q_par2 (evn_must (ea_cons (ev_var rfl) (ea_cons (ev_var rfl) (ea_cons (ev_var rfl) ea_nil))) (L8.args hg8 sub) hf).d (evn_callers (ea_cons (ev_var rfl) (ea_cons (ev_var rfl) (ea_cons (ev_var rfl) ea_nil))) (L8.args hg8 sub) hf).d fun vm H9 vf H10 e9 ⟨Tm, hTm, hm9⟩ e10 hfr => ?_
    have e810 := e9.trans e10
    have L := L8.tx (Ex.tx e810)
    have hg := st_row _ _ _ _ (Ex.tx e810) hg8
    have hu := st_row _ _ _ _ (Ex.tx e810) hu8
    have hm := st_row _ _ _ _ (Ex.tx e10) hm9
    have lr10 := lr_ex lr7 (e8.trans e810)
    have sc10 := scr_kp sc7 lr7 (Kp.of_ex (e8.trans e810))
    have mok : SetOk wb (mustIn s Tm) := sok.sub List.filter_sublist
    have fok : SetOk wb (mayCall wb s go) := sok.sub may_sub
    have m7 := set_len wok mok
    have must_in : ∀ x ∈ mustIn s Tm, x ∈ pl := fun x hx => (mem_must.mp hx).2 _ ((hTm.1 _).mpr best.tell)
    refine q_never (et_is (et_not (et_test (ev_chain (ev_worth (ea_cons (ev_var rfl) (ea_cons (ev_var rfl) (ea_cons (ev_var rfl) ea_nil))) L hm mok) (ev_var rfl) (ev_worth (ea_cons (ev_var rfl) (ea_cons (ev_var rfl) (ea_cons (ev_var rfl) ea_nil))) L hfr fok) (must_le sok L.pok (by decide) hTm.1 best) (best.least _ (free_tell wok sok sub hf))))) rfl) fun H11 e11 => ?_
    have L1 := L.tx (Ex.tx e11)
    have hg1 := st_row _ _ _ _ (Ex.tx e11) hg
    have hu1 := st_row _ _ _ _ (Ex.tx e11) hu
    refine q_never (et_test (ev_niX (Pr := Tight wb s go) (evd_var st_row rfl hu1) (evn_tight (ea_cons (ev_var rfl) (ea_cons (ev_var rfl) (ea_cons (ev_var rfl) ea_nil))) (L1.args hg1 sub) hf).d fun F hF => (hF.1 _).mpr ⟨best.tell, fun p hp => tight_of sok L.pok (by decide) best hp⟩)) fun H12 e12 => ?_
    have x12 := e11.trans e12
    have hm2 := st_row _ _ _ _ (Ex.tx x12) hm
    have hu2 := st_row _ _ _ _ (Ex.tx x12) hu
    refine q_never (et_is (et_test (ev_neL (evn_lcF (f := fun x => !decide (x ∈ pl)) (src_row mok0 (evd_var st_row rfl hm2)) st_I (by omega) (fun _ => rfl) (fun _ => rfl) fun H13 x l e13 hmem rx => ?_).d ev_newL.d)) ?_) fun H13 e13 => ?_
    · obtain rfl : x = .int l := rx
      exact et_test (ev_niTD (ev_var rfl) (evd_var st_row rfl (st_row _ _ _ _ (Ex.tx e13) hu2)))
    · have : (mustIn s Tm).filter (fun x => !decide (x ∈ pl)) = [] := List.filter_eq_nil_iff.mpr fun x hx => by simp [must_in x hx]
      rw [this] <;> rfl
    have x13 := x12.trans e13
    have L3 := L.tx (Ex.tx x13)
    have hg3 := st_row _ _ _ _ (Ex.tx x13) hg
    have hu3 := st_row _ _ _ _ (Ex.tx x13) hu
    refine q_never (et_is (et_or (et_test (ev_neRow (evn_told (ea_cons (ev_var rfl) (ea_cons (ev_var rfl) (ea_cons (ev_var rfl) ea_nil))) (L3.args hu3 plsub)).d (evd_var st_row rfl hg3))) (fun _ => et_testD (b := false) (evd_op (Pa := fun v _ => v = .int c) (Pb := fun v _ => ∃ m, v = .int m ∧ ∀ r, Tell wb s go r → m ≤ (r.length : Int)) (evd_of (ev_var rfl) fun _ _ => rfl) (evd_distance (ea_cons (ev_var rfl) (ea_cons (ev_var rfl) (ea_cons (ev_var rfl) ea_nil))) (L3.args hg3 sub) hf) fun x y Ha Hb ea px eb ⟨m, ey, hmm⟩ Q5 q5 => ?_))) ?_) fun H14 e14 => ?_
    · refine ⟨c, m, px, ey, q5 _ Hb (Ex.refl _) ?_⟩
      have h1 := hmm _ best.tell
      have h2 := len_le sok L.pok (by decide) plsub
      have h3 := best.cost
      show V.bl (decide (c < m)) = V.bl false
      rw [decide_eq_false (by omega)]
    · rw [told_eq wok sok best.tell, decide_eq_true rfl] <;> rfl
    have x14 := x13.trans e14
    have L4 := L.tx (Ex.tx x14)
    have hu4 := st_row _ _ _ _ (Ex.tx x14) hu
    refine q_never (et_is (et_test (ev_op (ev_worth (ea_cons (ev_var rfl) (ea_cons (ev_var rfl) (ea_cons (ev_var rfl) ea_nil))) L4 hu4 plok) (ev_var rfl) (rv_ne rfl))) ?_) fun H15 e15 => ?_
    · rw [best.cost, decide_eq_true rfl] <;> rfl
    have x15 := x14.trans e15
    have L5 := L.tx (Ex.tx x15)
    have hg5 := st_row _ _ _ _ (Ex.tx x15) hg
    refine s_forX (Pr := Tells wb s go) (evn_telling (ea_cons (ev_var rfl) (ea_cons (ev_var rfl) (ea_cons (ev_var rfl) ea_nil))) (L5.args hg5 sub) hf) fun p T2 H16 nr e16 hT hl => ?_
    refine s_for (src_put st_row mok0 hl (fun z => z)) (fun Hs i σ' H' => Ex Hs H' ∧ ∃ y, σ' = [some (.ref a), some (.ref ra), some vw, some vb, some vp, some vg, some (.int c), some vu, some vm, some vf, y, none, none, none, none, none, none, none, none, none]) (fun Hs es => ⟨Ex.refl _, none, rfl⟩) (fun _ _ _ _ h => Kp.of_ex h.1) ?_ ?_
    · rintro Hs i x r σ' H' es hl2 rx ⟨ex, y, rfl⟩
      have ht := (hT.1 r).mp (List.mem_of_getElem? hl2)
      refine s_never (et_is (et_test (ev_lt (ev_worth (ea_cons (ev_var rfl) (ea_cons (ev_var rfl) (ea_cons (ev_var rfl) ea_nil))) (L5.tx (Ex.tx ((e16.trans es).trans ex))) rx (sok.sub (tell_sub ht))) (ev_var rfl))) ?_) fun H17 e17 => ⟨ex.trans e17, _, rfl⟩
      have := best.least r ht
      exact decide_eq_false (by omega)
    rintro Hs σ' H' es ⟨ex, y10, rfl⟩
    have x17 := x15.trans ((e16.trans es).trans ex)
    clear ex es e16 e15 e14 e13 e12 e11 x12 x13 x14
    have lr17 := lr_ex lr10 x17
    have sc17 := scr_kp sc10 lr10 (Kp.of_ex x17)
    have L17 := L.tx (Ex.tx x17)
    have w0 := wok.pos
    obtain ⟨wa, wxs, ewa, hwa, hwl⟩ := len_web L17.web
    refine q_taken (m := (wxs.length : Int)) rfl lr17 sc17 (ev_lenT (a := wa) (ev_is (ev_var rfl) ewa) hwa) (by omega) (by omega) fun H18 pe k18 lr18 h0 h1 => ?_
    have t18 := (Ex.tx x17).trans (k18.tx (lr_mok lr17))
    have sc18 := scr_kp sc17 lr17 k18
    obtain ⟨pn, rfl⟩ : ∃ pn : Nat, pe = (pn : Int) := ⟨pe.toNat, by omega⟩
    have L18 := L.tx t18
    have hpl : pn < pr.length := by have := L.pok.len; omega
    have hprl := L.pok.len
    refine q_asgD (evd_catR (xs := pr.take pn ++ [99]) (ys := pr.drop (pn + 1)) (evd_catR (xs := pr.take pn) (ys := [99]) (evd_slice (evd_var st_row rfl L18.pri) eo_none (eo_some (ev_var rfl)) (cut_lo hpl)) evd_99 ?_) (evd_slice (evd_var st_row rfl L18.pri) (eo_some (ev_op (ev_var rfl) ev_c rv_I0)) eo_none (cut_hi hpl)) ?_) fun vh H19 e19 hh => ?_
    · rw [List.length_take, List.length_singleton]
      omega
    · rw [List.length_append, List.length_take, List.length_singleton, List.length_drop]
      omega
    rw [heavy_eq hpl] at hh
    have t19 := t18.trans (Ex.tx e19)
    have L19 := L.tx t19
    have hg19 := st_row _ _ _ _ t19 hg
    have hv := heavy_of hpl
    refine q_asgD (evd_fst (evd_cheap (ea_cons (ev_var rfl) (ea_cons (ev_var rfl) (ea_cons (ev_var rfl) (ea_cons (ev_var rfl) ea_nil)))) L19 hg19 sub hf hh (heavy_len L.pok))) fun vd H20 e20 ⟨dc, dr, evd, dbest⟩ => ?_
    subst evd
    have dbest : Best wb s go (pr.set pn 99) dc dr := dbest
    have t20 := t19.trans (Ex.tx e20)
    have hm20 := st_row _ _ _ _ t20 hm
    have hf20 := st_row _ _ _ _ t20 hfr
    have L20 := L.tx t20
    have hpat : pr[pn]? = some (pr.getD pn 0) := by rw [List.getD_eq_getElem?_getD, List.getElem?_eq_getElem hpl] <;> rfl
    refine q_never (et_is (et_or (et_test (ev_lt (ev_var rfl) (ev_var rfl))) fun _ => et_or (et_and (et_test (ev_inTD (i := (pn : Int)) (ev_var rfl) (evd_var st_row rfl hm20))) fun _ => et_test (ev_op (ev_var rfl) (ev_op (ev_op (ev_var rfl) (ev_of (v := .int (pr.getD pn 0)) (evd_ixT (l := pr) (j := pn) st_I (evd_of (ev_var rfl) fun Hz ez => row_tup (st_row _ _ _ _ (Ex.tx ez) L20.pri)) (ev_var rfl) hpat) fun _ _ _ z => z) rv_I0) ev_c rv_I0) (rv_ne rfl)))
      fun _ => et_and (et_test (ev_niTD (i := (pn : Int)) (ev_var rfl) (evd_var st_row rfl hf20))) fun _ => et_test (ev_op (ev_var rfl) (ev_var rfl) (rv_ne rfl))) ?_) fun H21 e21 => ?_
    · have g1 := dear_ge sok L.pok (by decide) hv best dbest
      have a1 : decide (dc < c) = false := decide_eq_false (by omega)
      have a2 : (decide ((pn : Int) ∈ mustIn s Tm) && !decide (V.int dc = V.int (c - pr.getD pn 0 + 99))) = false := by
        by_cases hmm : (pn : Int) ∈ mustIn s Tm
        · have := dear_must sok hv hTm.1 best dbest hmm
          rw [Int.toNat_natCast] at this
          rw [this, decide_eq_true rfl, Bool.not_true, Bool.and_false]
        · rw [decide_eq_false hmm, Bool.false_and]
      have a3 : ((!decide ((pn : Int) ∈ mayCall wb s go)) && !decide (V.int dc = V.int c)) = false := by
        by_cases hmm : (pn : Int) ∈ mayCall wb s go
        · rw [decide_eq_true hmm, Bool.not_true, Bool.false_and]
        · have := dear_free sok hv best dbest hmm
          rw [this, decide_eq_true rfl, Bool.not_true, Bool.and_false]
      rw [a1]
      rw [a2]
      rw [a3]
      rfl
    have t21 := t20.trans (Ex.tx e21)
    have lr21 := lr_ex lr18 ((e19.trans e20).trans e21)
    have sc21 := scr_kp sc18 lr18 (Kp.of_ex ((e19.trans e20).trans e21))
    have L21 := L.tx t21
    refine q_pick rfl lr21 sc21 (ea_cons (ev_var rfl) (ea_cons (ev_var rfl) ea_nil)) L21 fun H22 vo o k22 lr22 hre2 ho22 => ?_
    have osub := reach_sub hre2
    have ofit := reach_fits wok sok hre2
    have t22 := t21.trans (k22.tx (lr_mok lr21))
    have hg22 := st_row _ _ _ _ t22 hg
    have hgl := set_len wok gok
    refine q_asgN (evn_tupleI (l := both go o) (evn_lcF (f := fun p => decide (p ∈ o)) (src_row mok0 (evd_var st_row rfl hg22)) st_I (by omega) (fun _ => rfl) (fun _ => rfl) fun H23 x l e23 hmem rx => ?_).d) fun vb2 H23 nb2 e23 hbo => ?_
    · obtain rfl : x = .int l := rx
      exact et_test (ev_inTD (ev_var rfl) (evd_var st_row rfl (st_row _ _ _ _ (Ex.tx e23) ho22)))
    have bsub := both_sub sub o
    have bfit := both_fits hf ofit
    have t23 := t22.trans (Ex.tx e23)
    have L23 := L.tx t23
    have ho23 := st_row _ _ _ _ (Ex.tx e23) ho22
    refine q_never (et_testD (b := false) (evd_op (Pa := fun v _ => ∃ c3 r3, v = .int c3 ∧ Best wb s (both go o) pr c3 r3) (Pb := fun v _ => ∃ c2 r2, v = .int (c + c2) ∧ Best wb s o pr c2 r2)
      (evd_fst (Pd := fun d => Best wb s (both go o) pr d.1 d.2) (evd_cheap (ea_cons (ev_var rfl) (ea_cons (ev_var rfl) (ea_cons (ev_var rfl) (ea_cons (ev_var rfl) ea_nil)))) L23 hbo bsub bfit L23.pri L23.p99))
      (evd_op (Pa := fun v _ => v = .int c) (Pb := fun v _ => ∃ c2 r2, v = .int c2 ∧ Best wb s o pr c2 r2) (evd_of (ev_var rfl) fun _ _ => rfl) (evd_fst (Pd := fun d => Best wb s o pr d.1 d.2) (evd_cheap (ea_cons (ev_var rfl) (ea_cons (ev_var rfl) (ea_cons (ev_var rfl) (ea_cons (ev_var rfl) ea_nil)))) L23 ho23 osub ofit L23.pri L23.p99)) fun x y Ha Hb ea px eb ⟨c2, r2, ey, b2⟩ Q5 q5 => ⟨c, c2, px, ey, q5 _ Hb (Ex.refl _) ⟨c2, r2, rfl, b2⟩⟩)
      fun x y Ha Hb ea ⟨c3, r3, ex, b3⟩ eb ⟨c2, r2, ey, b2⟩ Q5 q5 => ⟨c3, c + c2, ex, ey, q5 _ Hb (Ex.refl _) ?_⟩)) fun H24 e24 => ?_
    · have := both_le wok sok L.pok (by decide) sub best b2 b3
      show V.bl (decide (c + c2 < c3)) = V.bl false
      rw [decide_eq_false (by omega)]
    have t24 := t23.trans (Ex.tx e24)
    have L24 := L.tx t24
    refine q_never (et_is (et_not (et_B (ev_can (ea_cons (ev_var rfl) (ea_cons (ev_var rfl) (ea_cons (ev_var rfl) ea_nil))) (L24.args (st_row _ _ _ _ (Ex.tx e24) hbo) bsub)))) (by rw [bfit] <;> rfl)) fun H25 e25 => ?_
    have t25 := t24.trans (Ex.tx e25)
    have L25 := L.tx t25
    refine q_pair (by rfl) (evd_cheapEnd (ea_cons (ev_var rfl) (ea_cons (ev_var rfl) (ea_cons (ev_var rfl) ea_nil))) L25) fun ce er ve H26 e26 hend hve => ?_
    obtain ⟨hisend, ⟨rowe, beste⟩, hleast⟩ := hend
    have beste : Best wb s er pr ce rowe := beste
    have hleast : ∀ e c row, IsEnd wb s e → Best wb s e pr c row → ce ≤ c := hleast
    have hisend : IsEnd wb s er := hisend
    have t26 := t25.trans (Ex.tx e26)
    have L26 := L.tx t26
    refine q_never (et_testD (b := false) (evd_op (Pa := fun v _ => v = .int ce) (Pb := fun v _ => v = .int ce) (evd_of (ev_var rfl) fun _ _ => rfl) ((evd_minX (Pr := fun ns => ∃ Le, EndsL wb s Le ∧ (∀ n ∈ ns, ∃ e ∈ Le, ∃ row, Best wb s e pr n row) ∧ ∀ e ∈ Le, ∃ n ∈ ns, ∃ row, Best wb s e pr n row) ?_ (evn_lcX (R := rRow) (Pr := EndsL wb s) (evn_ends (ea_cons (ev_var rfl) (ea_cons (ev_var rfl) ea_nil)) L26) fun p Le H27 e27 hLe hl => ?_).d).imp fun v H27 e27 ⟨m, ns, ev, ⟨Le, hLe, h1, h2⟩, hm1, hm2⟩ => ?_)
      fun x y Ha Hb ea px eb py Q5 q5 => ⟨by rw [px, py] <;> rfl, q5 _ Hb (Ex.refl _) (by rw [px, py, decide_eq_true rfl] <;> rfl)⟩)) fun H27 e27 => ?_
    · rintro ns ⟨Le, hLe, h1, h2⟩ z
      obtain ⟨n, hn, _⟩ := h2 er ((hLe.1 er).mpr hisend)
      rw [z] at hn
      cases hn
    · refine (evn_lc0 (R2 := rCost wb s pr) (g := fun e => e) (src_put st_row mok0 hl (fun z => z)) st_cost (by have := hLe.2; omega) (fun _ => rfl) fun H28 x e e28 he rx => ?_).imp fun v H28 e28 hv28 => ?_
      · have hie := (hLe.1 e).mp he
        have L28 := L26.tx (Ex.tx (e27.trans e28))
        exact (evd_fst (Pd := fun d => Best wb s e pr d.1 d.2) (evd_cheap (ea_cons (ev_var rfl) (ea_cons (ev_var rfl) (ea_cons (ev_var rfl) (ea_cons (ev_var rfl) ea_nil)))) L28 rx hie.1 hie.2.2 L28.pri L28.p99)).imp fun v H29 e29 ⟨c9, r9, ev9, b9⟩ => ⟨c9, r9, ev9, b9⟩
      · obtain ⟨q9, ys9, ev9, hq9, pq9⟩ := hv28
        rw [List.map_id'] at pq9
        obtain ⟨ns, en, h1, h2⟩ := cost_ns pq9
        exact ⟨ns, ⟨Le, hLe, h1, h2⟩, q9, ys9, ev9, hq9, by rw [en]; exact pi_ints ns⟩
    · obtain ⟨e, he, row, hb⟩ := h1 m hm1
      have l1 := hleast e m row ((hLe.1 e).mp he) hb
      obtain ⟨n, hn, row2, hb2⟩ := h2 er ((hLe.1 er).mpr hisend)
      have l2 := best_uniq beste hb2
      have l3 := hm2 n hn
      rw [ev, show m = ce by omega]
    have L27 := L26.tx (Ex.tx e27)
    refine q_never (et_is (et_not (et_test (ev_inX (Pr := EndsL wb s) (evd_var st_row rfl (st_row _ _ _ _ (Ex.tx e27) hve)) (evn_ends (ea_cons (ev_var rfl) (ea_cons (ev_var rfl) ea_nil)) L27).d fun Le hLe => (hLe.1 er).mpr hisend))) rfl) fun H28 e28 => ?_
    have L28 := L27.tx (Ex.tx e28)
    exact s_ret (v := .bl true) (ev_eqPair (d0 := (0, [])) (Pd := fun d => Best wb s s pr d.1 d.2) (evd_cheap (ea_cons (ev_var rfl) (ea_cons (ev_var rfl) (ea_cons (ev_var rfl) (ea_cons (ev_var rfl) ea_nil)))) L28 L28.st (List.Sublist.refl s) (base_fits wb s) L28.pri L28.p99) evd_zero fun d hd => by
      obtain ⟨h1, h2⟩ := base_best wok sok L.pok (by decide) hd
      exact Prod.ext h1 h2) fun H29 _ => q H29
end
end K87
set_option Elab.async false
set_option linter.all false
set_option maxRecDepth 100000
set_option maxHeartbeats 4000000
namespace K87
open PySem L2 Evl PyProof.Rows
/-! ### what the top has written -/
theorem all_mk {l : PySem.W.OpenLaw} {w : World} {K : PySem.W.Frag} {h : Heap} {mg : Str → Option Value} {fa f1 f2 f3 f4 f5 f6 f7 f8 f9 f10 f11 f12 f13 f14 f15 f16 f17 f18 f19 f20 f21 f22 f23 f24 f25 f26 f27 f28 f29 f30 f31 f32 f33 f34 f35 f36 f37 f38 f39 f40 : Addr} (X : K.In h) (G : h.Ns mainGlobals mg) (hfa : mg "law" = some (.ref fa))
    {od1 an1 od2 an2 od3 an3 od4 an4 od5 an5 od6 an6 od7 an7 od8 an8 od9 an9 od10 an10 od11 an11 od12 an12 od13 an13 od14 an14 od15 an15 od16 an16 od17 an17 od18 an18 od19 an19 od20 an20 od21 an21 od22 an22 od23 an23 od24 an24 od25 an25 od26 an26 od27 an27 od28 an28 od29 an29 od30 an30 od31 an31 od32 an32 od33 an33 od34 an34 od35 an35 od36 an36 od37 an37 od38 an38 od39 an39 od40 an40 : Option Addr} {sl1 sl2 sl3 sl4 sl5 sl6 sl7 sl8 sl9 sl10 sl11 sl12 sl13 sl14 sl15 sl16 sl17 sl18 sl19 sl20 sl21 sl22 sl23 sl24 sl25 sl26 sl27 sl28 sl29 sl30 sl31 sl32 sl33 sl34 sl35 sl36 sl37 sl38 sl39 sl40 : Array (Option Value)} {oc1 kV1 dc1 pm1 cd1 ct1 oc2 kV2 dc2 pm2 cd2 ct2 oc3 kV3 dc3 pm3 cd3 ct3 oc4 kV4 dc4 pm4 cd4 ct4 oc5 kV5 dc5 pm5 cd5 ct5 oc6 kV6 dc6 pm6 cd6 ct6 oc7 kV7 dc7 pm7 cd7 ct7 oc8 kV8 dc8 pm8 cd8 ct8 oc9 kV9 dc9 pm9 cd9 ct9 oc10 kV10 dc10 pm10 cd10 ct10 oc11 kV11 dc11 pm11 cd11 ct11 oc12 kV12 dc12 pm12 cd12 ct12 oc13 kV13 dc13 pm13 cd13 ct13 oc14 kV14 dc14 pm14 cd14 ct14 oc15 kV15 dc15 pm15 cd15 ct15 oc16 kV16 dc16 pm16 cd16 ct16 oc17 kV17 dc17 pm17 cd17 ct17 oc18 kV18 dc18 pm18 cd18 ct18 oc19 kV19 dc19 pm19 cd19 ct19 oc20 kV20 dc20 pm20 cd20 ct20 oc21 kV21 dc21 pm21 cd21 ct21 oc22 kV22 dc22 pm22 cd22 ct22 oc23 kV23 dc23 pm23 cd23 ct23 oc24 kV24 dc24 pm24 cd24 ct24 oc25 kV25 dc25 pm25 cd25 ct25 oc26 kV26 dc26 pm26 cd26 ct26 oc27 kV27 dc27 pm27 cd27 ct27 oc28 kV28 dc28 pm28 cd28 ct28 oc29 kV29 dc29 pm29 cd29 ct29 oc30 kV30 dc30 pm30 cd30 ct30 oc31 kV31 dc31 pm31 cd31 ct31 oc32 kV32 dc32 pm32 cd32 ct32 oc33 kV33 dc33 pm33 cd33 ct33 oc34 kV34 dc34 pm34 cd34 ct34 oc35 kV35 dc35 pm35 cd35 ct35 oc36 kV36 dc36 pm36 cd36 ct36 oc37 kV37 dc37 pm37 cd37 ct37 oc38 kV38 dc38 pm38 cd38 ct38 oc39 kV39 dc39 pm39 cd39 ct39 oc40 kV40 dc40 pm40 cd40 ct40 : Value}
    (a1 : PySem.W.nsIn K mainGlobals "is_integer" = some (some (.ref f1))) (l1 : K.lookup f1 = some ⟨oc1, od1, .func (PySem.W.fnOf "is_integer" "is_integer" (defArgs sIsInteger) (defBody sIsInteger) (defScope sIsInteger) .none kV1 dc1 pm1 an1 cd1 ct1), sl1⟩) (c1 : PySem.W.codeIn K cd1 "is_integer" = true) (k1 : PySem.W.keepIn K (.ref f1) = true)
    (a2 : PySem.W.nsIn K mainGlobals "is_in" = some (some (.ref f2))) (l2 : K.lookup f2 = some ⟨oc2, od2, .func (PySem.W.fnOf "is_in" "is_in" (defArgs sIsIn) (defBody sIsIn) (defScope sIsIn) .none kV2 dc2 pm2 an2 cd2 ct2), sl2⟩) (c2 : PySem.W.codeIn K cd2 "is_in" = true) (k2 : PySem.W.keepIn K (.ref f2) = true)
    (a3 : PySem.W.nsIn K mainGlobals "is_list" = some (some (.ref f3))) (l3 : K.lookup f3 = some ⟨oc3, od3, .func (PySem.W.fnOf "is_list" "is_list" (defArgs sIsList) (defBody sIsList) (defScope sIsList) .none kV3 dc3 pm3 an3 cd3 ct3), sl3⟩) (c3 : PySem.W.codeIn K cd3 "is_list" = true) (k3 : PySem.W.keepIn K (.ref f3) = true)
    (a4 : PySem.W.nsIn K mainGlobals "need_web" = some (some (.ref f4))) (l4 : K.lookup f4 = some ⟨oc4, od4, .func (PySem.W.fnOf "need_web" "need_web" (defArgs sNeedWeb) (defBody sNeedWeb) (defScope sNeedWeb) .none kV4 dc4 pm4 an4 cd4 ct4), sl4⟩) (c4 : PySem.W.codeIn K cd4 "need_web" = true) (k4 : PySem.W.keepIn K (.ref f4) = true)
    (a5 : PySem.W.nsIn K mainGlobals "is_set" = some (some (.ref f5))) (l5 : K.lookup f5 = some ⟨oc5, od5, .func (PySem.W.fnOf "is_set" "is_set" (defArgs sIsSet) (defBody sIsSet) (defScope sIsSet) .none kV5 dc5 pm5 an5 cd5 ct5), sl5⟩) (c5 : PySem.W.codeIn K cd5 "is_set" = true) (k5 : PySem.W.keepIn K (.ref f5) = true)
    (a6 : PySem.W.nsIn K mainGlobals "need_people" = some (some (.ref f6))) (l6 : K.lookup f6 = some ⟨oc6, od6, .func (PySem.W.fnOf "need_people" "need_people" (defArgs sNeedPeople) (defBody sNeedPeople) (defScope sNeedPeople) .none kV6 dc6 pm6 an6 cd6 ct6), sl6⟩) (c6 : PySem.W.codeIn K cd6 "need_people" = true) (k6 : PySem.W.keepIn K (.ref f6) = true)
    (a7 : PySem.W.nsIn K mainGlobals "need_state" = some (some (.ref f7))) (l7 : K.lookup f7 = some ⟨oc7, od7, .func (PySem.W.fnOf "need_state" "need_state" (defArgs sNeedState) (defBody sNeedState) (defScope sNeedState) .none kV7 dc7 pm7 an7 cd7 ct7), sl7⟩) (c7 : PySem.W.codeIn K cd7 "need_state" = true) (k7 : PySem.W.keepIn K (.ref f7) = true)
    (a8 : PySem.W.nsIn K mainGlobals "need_two" = some (some (.ref f8))) (l8 : K.lookup f8 = some ⟨oc8, od8, .func (PySem.W.fnOf "need_two" "need_two" (defArgs sNeedTwo) (defBody sNeedTwo) (defScope sNeedTwo) .none kV8 dc8 pm8 an8 cd8 ct8), sl8⟩) (c8 : PySem.W.codeIn K cd8 "need_two" = true) (k8 : PySem.W.keepIn K (.ref f8) = true)
    (a9 : PySem.W.nsIn K mainGlobals "taller_in" = some (some (.ref f9))) (l9 : K.lookup f9 = some ⟨oc9, od9, .func (PySem.W.fnOf "taller_in" "taller_in" (defArgs sTallerIn) (defBody sTallerIn) (defScope sTallerIn) .none kV9 dc9 pm9 an9 cd9 ct9), sl9⟩) (c9 : PySem.W.codeIn K cd9 "taller_in" = true) (k9 : PySem.W.keepIn K (.ref f9) = true)
    (a10 : PySem.W.nsIn K mainGlobals "apart_in" = some (some (.ref f10))) (l10 : K.lookup f10 = some ⟨oc10, od10, .func (PySem.W.fnOf "apart_in" "apart_in" (defArgs sApartIn) (defBody sApartIn) (defScope sApartIn) .none kV10 dc10 pm10 an10 cd10 ct10), sl10⟩) (c10 : PySem.W.codeIn K cd10 "apart_in" = true) (k10 : PySem.W.keepIn K (.ref f10) = true)
    (a11 : PySem.W.nsIn K mainGlobals "choices" = some (some (.ref f11))) (l11 : K.lookup f11 = some ⟨oc11, od11, .func (PySem.W.fnOf "choices" "choices" (defArgs sChoices) (defBody sChoices) (defScope sChoices) .none kV11 dc11 pm11 an11 cd11 ct11), sl11⟩) (c11 : PySem.W.codeIn K cd11 "choices" = true) (k11 : PySem.W.keepIn K (.ref f11) = true)
    (a12 : PySem.W.nsIn K mainGlobals "call_in" = some (some (.ref f12))) (l12 : K.lookup f12 = some ⟨oc12, od12, .func (PySem.W.fnOf "call_in" "call_in" (defArgs sCallIn) (defBody sCallIn) (defScope sCallIn) .none kV12 dc12 pm12 an12 cd12 ct12), sl12⟩) (c12 : PySem.W.codeIn K cd12 "call_in" = true) (k12 : PySem.W.keepIn K (.ref f12) = true)
    (a13 : PySem.W.nsIn K mainGlobals "movers_in" = some (some (.ref f13))) (l13 : K.lookup f13 = some ⟨oc13, od13, .func (PySem.W.fnOf "movers_in" "movers_in" (defArgs sMoversIn) (defBody sMoversIn) (defScope sMoversIn) .none kV13 dc13 pm13 an13 cd13 ct13), sl13⟩) (c13 : PySem.W.codeIn K cd13 "movers_in" = true) (k13 : PySem.W.keepIn K (.ref f13) = true)
    (a14 : PySem.W.nsIn K mainGlobals "may_call" = some (some (.ref f14))) (l14 : K.lookup f14 = some ⟨oc14, od14, .func (PySem.W.fnOf "may_call" "may_call" (defArgs sMayCall) (defBody sMayCall) (defScope sMayCall) .none kV14 dc14 pm14 an14 cd14 ct14), sl14⟩) (c14 : PySem.W.codeIn K cd14 "may_call" = true) (k14 : PySem.W.keepIn K (.ref f14) = true)
    (a15 : PySem.W.nsIn K mainGlobals "fits" = some (some (.ref f15))) (l15 : K.lookup f15 = some ⟨oc15, od15, .func (PySem.W.fnOf "fits" "fits" (defArgs sFits) (defBody sFits) (defScope sFits) .none kV15 dc15 pm15 an15 cd15 ct15), sl15⟩) (c15 : PySem.W.codeIn K cd15 "fits" = true) (k15 : PySem.W.keepIn K (.ref f15) = true)
    (a16 : PySem.W.nsIn K mainGlobals "can_come" = some (some (.ref f16))) (l16 : K.lookup f16 = some ⟨oc16, od16, .func (PySem.W.fnOf "can_come" "can_come" (defArgs sCanCome) (defBody sCanCome) (defScope sCanCome) .none kV16 dc16 pm16 an16 cd16 ct16), sl16⟩) (c16 : PySem.W.codeIn K cd16 "can_come" = true) (k16 : PySem.W.keepIn K (.ref f16) = true)
    (a17 : PySem.W.nsIn K mainGlobals "need_way" = some (some (.ref f17))) (l17 : K.lookup f17 = some ⟨oc17, od17, .func (PySem.W.fnOf "need_way" "need_way" (defArgs sNeedWay) (defBody sNeedWay) (defScope sNeedWay) .none kV17 dc17 pm17 an17 cd17 ct17), sl17⟩) (c17 : PySem.W.codeIn K cd17 "need_way" = true) (k17 : PySem.W.keepIn K (.ref f17) = true)
    (a18 : PySem.W.nsIn K mainGlobals "callers" = some (some (.ref f18))) (l18 : K.lookup f18 = some ⟨oc18, od18, .func (PySem.W.fnOf "callers" "callers" (defArgs sCallers) (defBody sCallers) (defScope sCallers) .none kV18 dc18 pm18 an18 cd18 ct18), sl18⟩) (c18 : PySem.W.codeIn K cd18 "callers" = true) (k18 : PySem.W.keepIn K (.ref f18) = true)
    (a19 : PySem.W.nsIn K mainGlobals "leads" = some (some (.ref f19))) (l19 : K.lookup f19 = some ⟨oc19, od19, .func (PySem.W.fnOf "leads" "leads" (defArgs sLeads) (defBody sLeads) (defScope sLeads) .none kV19 dc19 pm19 an19 cd19 ct19), sl19⟩) (c19 : PySem.W.codeIn K cd19 "leads" = true) (k19 : PySem.W.keepIn K (.ref f19) = true)
    (a20 : PySem.W.nsIn K mainGlobals "telling_in" = some (some (.ref f20))) (l20 : K.lookup f20 = some ⟨oc20, od20, .func (PySem.W.fnOf "telling_in" "telling_in" (defArgs sTellingIn) (defBody sTellingIn) (defScope sTellingIn) .none kV20 dc20 pm20 an20 cd20 ct20), sl20⟩) (c20 : PySem.W.codeIn K cd20 "telling_in" = true) (k20 : PySem.W.keepIn K (.ref f20) = true)
    (a21 : PySem.W.nsIn K mainGlobals "telling" = some (some (.ref f21))) (l21 : K.lookup f21 = some ⟨oc21, od21, .func (PySem.W.fnOf "telling" "telling" (defArgs sTelling) (defBody sTelling) (defScope sTelling) .none kV21 dc21 pm21 an21 cd21 ct21), sl21⟩) (c21 : PySem.W.codeIn K cd21 "telling" = true) (k21 : PySem.W.keepIn K (.ref f21) = true)
    (a22 : PySem.W.nsIn K mainGlobals "distance" = some (some (.ref f22))) (l22 : K.lookup f22 = some ⟨oc22, od22, .func (PySem.W.fnOf "distance" "distance" (defArgs sDistance) (defBody sDistance) (defScope sDistance) .none kV22 dc22 pm22 an22 cd22 ct22), sl22⟩) (c22 : PySem.W.codeIn K cd22 "distance" = true) (k22 : PySem.W.keepIn K (.ref f22) = true)
    (a23 : PySem.W.nsIn K mainGlobals "reached_from" = some (some (.ref f23))) (l23 : K.lookup f23 = some ⟨oc23, od23, .func (PySem.W.fnOf "reached_from" "reached_from" (defArgs sReachedFrom) (defBody sReachedFrom) (defScope sReachedFrom) .none kV23 dc23 pm23 an23 cd23 ct23), sl23⟩) (c23 : PySem.W.codeIn K cd23 "reached_from" = true) (k23 : PySem.W.keepIn K (.ref f23) = true)
    (a24 : PySem.W.nsIn K mainGlobals "reached" = some (some (.ref f24))) (l24 : K.lookup f24 = some ⟨oc24, od24, .func (PySem.W.fnOf "reached" "reached" (defArgs sReached) (defBody sReached) (defScope sReached) .none kV24 dc24 pm24 an24 cd24 ct24), sl24⟩) (c24 : PySem.W.codeIn K cd24 "reached" = true) (k24 : PySem.W.keepIn K (.ref f24) = true)
    (a25 : PySem.W.nsIn K mainGlobals "ends_in" = some (some (.ref f25))) (l25 : K.lookup f25 = some ⟨oc25, od25, .func (PySem.W.fnOf "ends_in" "ends_in" (defArgs sEndsIn) (defBody sEndsIn) (defScope sEndsIn) .none kV25 dc25 pm25 an25 cd25 ct25), sl25⟩) (c25 : PySem.W.codeIn K cd25 "ends_in" = true) (k25 : PySem.W.keepIn K (.ref f25) = true)
    (a26 : PySem.W.nsIn K mainGlobals "ends" = some (some (.ref f26))) (l26 : K.lookup f26 = some ⟨oc26, od26, .func (PySem.W.fnOf "ends" "ends" (defArgs sEnds) (defBody sEnds) (defScope sEnds) .none kV26 dc26 pm26 an26 cd26 ct26), sl26⟩) (c26 : PySem.W.codeIn K cd26 "ends" = true) (k26 : PySem.W.keepIn K (.ref f26) = true)
    (a27 : PySem.W.nsIn K mainGlobals "need_weights" = some (some (.ref f27))) (l27 : K.lookup f27 = some ⟨oc27, od27, .func (PySem.W.fnOf "need_weights" "need_weights" (defArgs sNeedWeights) (defBody sNeedWeights) (defScope sNeedWeights) .none kV27 dc27 pm27 an27 cd27 ct27), sl27⟩) (c27 : PySem.W.codeIn K cd27 "need_weights" = true) (k27 : PySem.W.keepIn K (.ref f27) = true)
    (a28 : PySem.W.nsIn K mainGlobals "cheapest_telling" = some (some (.ref f28))) (l28 : K.lookup f28 = some ⟨oc28, od28, .func (PySem.W.fnOf "cheapest_telling" "cheapest_telling" (defArgs sCheapestTelling) (defBody sCheapestTelling) (defScope sCheapestTelling) .none kV28 dc28 pm28 an28 cd28 ct28), sl28⟩) (c28 : PySem.W.codeIn K cd28 "cheapest_telling" = true) (k28 : PySem.W.keepIn K (.ref f28) = true)
    (a29 : PySem.W.nsIn K mainGlobals "worth" = some (some (.ref f29))) (l29 : K.lookup f29 = some ⟨oc29, od29, .func (PySem.W.fnOf "worth" "worth" (defArgs sWorth) (defBody sWorth) (defScope sWorth) .none kV29 dc29 pm29 an29 cd29 ct29), sl29⟩) (c29 : PySem.W.codeIn K cd29 "worth" = true) (k29 : PySem.W.keepIn K (.ref f29) = true)
    (a30 : PySem.W.nsIn K mainGlobals "cheapest_end" = some (some (.ref f30))) (l30 : K.lookup f30 = some ⟨oc30, od30, .func (PySem.W.fnOf "cheapest_end" "cheapest_end" (defArgs sCheapestEnd) (defBody sCheapestEnd) (defScope sCheapestEnd) .none kV30 dc30 pm30 an30 cd30 ct30), sl30⟩) (c30 : PySem.W.codeIn K cd30 "cheapest_end" = true) (k30 : PySem.W.keepIn K (.ref f30) = true)
    (a31 : PySem.W.nsIn K mainGlobals "tight_telling" = some (some (.ref f31))) (l31 : K.lookup f31 = some ⟨oc31, od31, .func (PySem.W.fnOf "tight_telling" "tight_telling" (defArgs sTightTelling) (defBody sTightTelling) (defScope sTightTelling) .none kV31 dc31 pm31 an31 cd31 ct31), sl31⟩) (c31 : PySem.W.codeIn K cd31 "tight_telling" = true) (k31 : PySem.W.keepIn K (.ref f31) = true)
    (a32 : PySem.W.nsIn K mainGlobals "must_call" = some (some (.ref f32))) (l32 : K.lookup f32 = some ⟨oc32, od32, .func (PySem.W.fnOf "must_call" "must_call" (defArgs sMustCall) (defBody sMustCall) (defScope sMustCall) .none kV32 dc32 pm32 an32 cd32 ct32), sl32⟩) (c32 : PySem.W.codeIn K cd32 "must_call" = true) (k32 : PySem.W.keepIn K (.ref f32) = true)
    (a33 : PySem.W.nsIn K mainGlobals "told" = some (some (.ref f33))) (l33 : K.lookup f33 = some ⟨oc33, od33, .func (PySem.W.fnOf "told" "told" (defArgs sTold) (defBody sTold) (defScope sTold) .none kV33 dc33 pm33 an33 cd33 ct33), sl33⟩) (c33 : PySem.W.codeIn K cd33 "told" = true) (k33 : PySem.W.keepIn K (.ref f33) = true)
    (a34 : PySem.W.nsIn K mainGlobals "told_in" = some (some (.ref f34))) (l34 : K.lookup f34 = some ⟨oc34, od34, .func (PySem.W.fnOf "told_in" "told_in" (defArgs sToldIn) (defBody sToldIn) (defScope sToldIn) .none kV34 dc34 pm34 an34 cd34 ct34), sl34⟩) (c34 : PySem.W.codeIn K cd34 "told_in" = true) (k34 : PySem.W.keepIn K (.ref f34) = true)
    (a35 : PySem.W.nsIn K mainGlobals "_law_taken" = some (some (.ref f35))) (l35 : K.lookup f35 = some ⟨oc35, od35, .func (PySem.W.fnOf "_law_taken" "_law_taken" (defArgs sLawTaken) (defBody sLawTaken) (defScope sLawTaken) .none kV35 dc35 pm35 an35 cd35 ct35), sl35⟩) (c35 : PySem.W.codeIn K cd35 "_law_taken" = true) (k35 : PySem.W.keepIn K (.ref f35) = true)
    (a36 : PySem.W.nsIn K mainGlobals "_law_pick" = some (some (.ref f36))) (l36 : K.lookup f36 = some ⟨oc36, od36, .func (PySem.W.fnOf "_law_pick" "_law_pick" (defArgs sLawPick) (defBody sLawPick) (defScope sLawPick) .none kV36 dc36 pm36 an36 cd36 ct36), sl36⟩) (c36 : PySem.W.codeIn K cd36 "_law_pick" = true) (k36 : PySem.W.keepIn K (.ref f36) = true)
    (a37 : PySem.W.nsIn K mainGlobals "_law_by" = some (some (.ref f37))) (l37 : K.lookup f37 = some ⟨oc37, od37, .func (PySem.W.fnOf "_law_by" "_law_by" (defArgs sLawBy) (defBody sLawBy) (defScope sLawBy) .none kV37 dc37 pm37 an37 cd37 ct37), sl37⟩) (c37 : PySem.W.codeIn K cd37 "_law_by" = true) (k37 : PySem.W.keepIn K (.ref f37) = true)
    (a38 : PySem.W.nsIn K mainGlobals "_law_web" = some (some (.ref f38))) (l38 : K.lookup f38 = some ⟨oc38, od38, .func (PySem.W.fnOf "_law_web" "_law_web" (defArgs sLawWeb) (defBody sLawWeb) (defScope sLawWeb) .none kV38 dc38 pm38 an38 cd38 ct38), sl38⟩) (c38 : PySem.W.codeIn K cd38 "_law_web" = true) (k38 : PySem.W.keepIn K (.ref f38) = true)
    (a39 : PySem.W.nsIn K mainGlobals "_law_up" = some (some (.ref f39))) (l39 : K.lookup f39 = some ⟨oc39, od39, .func (PySem.W.fnOf "_law_up" "_law_up" (defArgs sLawUp) (defBody sLawUp) (defScope sLawUp) .none kV39 dc39 pm39 an39 cd39 ct39), sl39⟩) (c39 : PySem.W.codeIn K cd39 "_law_up" = true) (k39 : PySem.W.keepIn K (.ref f39) = true)
    (a40 : PySem.W.nsIn K mainGlobals "law" = some (some (.ref f40))) (l40 : K.lookup f40 = some ⟨oc40, od40, .func (PySem.W.fnOf "law" "law" (defArgs sLaw) (defBody sLaw) (defScope sLaw) .none kV40 dc40 pm40 an40 cd40 ct40), sl40⟩) (c40 : PySem.W.codeIn K cd40 "law" = true) (k40 : PySem.W.keepIn K (.ref f40) = true)
    (z1 : PySem.W.nsIn K mainGlobals "isinstance" = some none) (z2 : PySem.W.nsIn K mainGlobals "int" = some none) (z3 : PySem.W.nsIn K mainGlobals "bool" = some none) (z4 : PySem.W.nsIn K mainGlobals "tuple" = some none) (z5 : PySem.W.nsIn K mainGlobals "len" = some none) (z6 : PySem.W.nsIn K mainGlobals "all" = some none) (z7 : PySem.W.nsIn K mainGlobals "any" = some none) (z8 : PySem.W.nsIn K mainGlobals "list" = some none) (z9 : PySem.W.nsIn K mainGlobals "sorted" = some none) (z10 : PySem.W.nsIn K mainGlobals "set" = some none) (z11 : PySem.W.nsIn K mainGlobals "enumerate" = some none) (z12 : PySem.W.nsIn K mainGlobals "sum" = some none) (z13 : PySem.W.nsIn K mainGlobals "min" = some none) (z14 : PySem.W.nsIn K mainGlobals "range" = some none)
    {t7 : Tok} (m7 : PySem.W.nsIn K mainGlobals "MOST_PEOPLE" = some (some (.int 7 t7))) :
    ∃ fd : FuncData, (∀ (s : Shared) (v : Value), BindsTo s fd ⟨[v], []⟩ [("_law_script", v)]) ∧ ∀ base : Heap, K.In base → base.Ns mainGlobals mg → FnOk l.prog w K mg base CX0 8 fa fd ["_law_script"] (spLaw K) := by
  have e := hfa.symm.trans (PySem.W.mg_of X G a40)
  cases e
  have T : Bt mg := ⟨PySem.W.mg_none_of X G z1, PySem.W.mg_none_of X G z2, PySem.W.mg_none_of X G z3, PySem.W.mg_none_of X G z4, PySem.W.mg_none_of X G z5, PySem.W.mg_none_of X G z6, PySem.W.mg_none_of X G z7, PySem.W.mg_none_of X G z8, PySem.W.mg_none_of X G z9, PySem.W.mg_none_of X G z10, PySem.W.mg_none_of X G z11, PySem.W.mg_none_of X G z12, PySem.W.mg_none_of X G z13, PySem.W.mg_none_of X G z14, ⟨_, PySem.W.mg_of X G m7⟩⟩
  have D1 : Dn K mg "is_integer" sIsInteger ["value"] := ⟨f1, _, fun_mk (st := sIsInteger) l1 c1 k1, PySem.W.mg_of X G a1, (fun_mk (st := sIsInteger) l1 c1 k1).binds (ps := ["value"]) fun _ _ _ _ _ _ us hl => match us, hl with | [_], _ => rfl⟩
  have D2 : Dn K mg "is_in" sIsIn ["value", "least", "most"] := ⟨f2, _, fun_mk (st := sIsIn) l2 c2 k2, PySem.W.mg_of X G a2, (fun_mk (st := sIsIn) l2 c2 k2).binds (ps := ["value", "least", "most"]) fun _ _ _ _ _ _ us hl => match us, hl with | [_, _, _], _ => rfl⟩
  have D3 : Dn K mg "is_list" sIsList ["value", "least", "most"] := ⟨f3, _, fun_mk (st := sIsList) l3 c3 k3, PySem.W.mg_of X G a3, (fun_mk (st := sIsList) l3 c3 k3).binds (ps := ["value", "least", "most"]) fun _ _ _ _ _ _ us hl => match us, hl with | [_, _, _], _ => rfl⟩
  have D4 : Dn K mg "need_web" sNeedWeb ["web"] := ⟨f4, _, fun_mk (st := sNeedWeb) l4 c4 k4, PySem.W.mg_of X G a4, (fun_mk (st := sNeedWeb) l4 c4 k4).binds (ps := ["web"]) fun _ _ _ _ _ _ us hl => match us, hl with | [_], _ => rfl⟩
  have D5 : Dn K mg "is_set" sIsSet ["web", "people"] := ⟨f5, _, fun_mk (st := sIsSet) l5 c5 k5, PySem.W.mg_of X G a5, (fun_mk (st := sIsSet) l5 c5 k5).binds (ps := ["web", "people"]) fun _ _ _ _ _ _ us hl => match us, hl with | [_, _], _ => rfl⟩
  have D6 : Dn K mg "need_people" sNeedPeople ["web", "people"] := ⟨f6, _, fun_mk (st := sNeedPeople) l6 c6 k6, PySem.W.mg_of X G a6, (fun_mk (st := sNeedPeople) l6 c6 k6).binds (ps := ["web", "people"]) fun _ _ _ _ _ _ us hl => match us, hl with | [_, _], _ => rfl⟩
  have D7 : Dn K mg "need_state" sNeedState ["web", "standing"] := ⟨f7, _, fun_mk (st := sNeedState) l7 c7 k7, PySem.W.mg_of X G a7, (fun_mk (st := sNeedState) l7 c7 k7).binds (ps := ["web", "standing"]) fun _ _ _ _ _ _ us hl => match us, hl with | [_, _], _ => rfl⟩
  have D8 : Dn K mg "need_two" sNeedTwo ["web", "standing", "goal"] := ⟨f8, _, fun_mk (st := sNeedTwo) l8 c8 k8, PySem.W.mg_of X G a8, (fun_mk (st := sNeedTwo) l8 c8 k8).binds (ps := ["web", "standing", "goal"]) fun _ _ _ _ _ _ us hl => match us, hl with | [_, _, _], _ => rfl⟩
  have D9 : Dn K mg "taller_in" sTallerIn ["web", "person"] := ⟨f9, _, fun_mk (st := sTallerIn) l9 c9 k9, PySem.W.mg_of X G a9, (fun_mk (st := sTallerIn) l9 c9 k9).binds (ps := ["web", "person"]) fun _ _ _ _ _ _ us hl => match us, hl with | [_, _], _ => rfl⟩
  have D10 : Dn K mg "apart_in" sApartIn ["web", "people"] := ⟨f10, _, fun_mk (st := sApartIn) l10 c10 k10, PySem.W.mg_of X G a10, (fun_mk (st := sApartIn) l10 c10 k10).binds (ps := ["web", "people"]) fun _ _ _ _ _ _ us hl => match us, hl with | [_, _], _ => rfl⟩
  have D11 : Dn K mg "choices" sChoices ["people"] := ⟨f11, _, fun_mk (st := sChoices) l11 c11 k11, PySem.W.mg_of X G a11, (fun_mk (st := sChoices) l11 c11 k11).binds (ps := ["people"]) fun _ _ _ _ _ _ us hl => match us, hl with | [_], _ => rfl⟩
  have D12 : Dn K mg "call_in" sCallIn ["web", "standing", "person"] := ⟨f12, _, fun_mk (st := sCallIn) l12 c12 k12, PySem.W.mg_of X G a12, (fun_mk (st := sCallIn) l12 c12 k12).binds (ps := ["web", "standing", "person"]) fun _ _ _ _ _ _ us hl => match us, hl with | [_, _, _], _ => rfl⟩
  have D13 : Dn K mg "movers_in" sMoversIn ["web", "standing"] := ⟨f13, _, fun_mk (st := sMoversIn) l13 c13 k13, PySem.W.mg_of X G a13, (fun_mk (st := sMoversIn) l13 c13 k13).binds (ps := ["web", "standing"]) fun _ _ _ _ _ _ us hl => match us, hl with | [_, _], _ => rfl⟩
  have D14 : Dn K mg "may_call" sMayCall ["web", "standing", "goal"] := ⟨f14, _, fun_mk (st := sMayCall) l14 c14 k14, PySem.W.mg_of X G a14, (fun_mk (st := sMayCall) l14 c14 k14).binds (ps := ["web", "standing", "goal"]) fun _ _ _ _ _ _ us hl => match us, hl with | [_, _, _], _ => rfl⟩
  have D15 : Dn K mg "fits" sFits ["web", "standing", "goal"] := ⟨f15, _, fun_mk (st := sFits) l15 c15 k15, PySem.W.mg_of X G a15, (fun_mk (st := sFits) l15 c15 k15).binds (ps := ["web", "standing", "goal"]) fun _ _ _ _ _ _ us hl => match us, hl with | [_, _, _], _ => rfl⟩
  have D16 : Dn K mg "can_come" sCanCome ["web", "standing", "goal"] := ⟨f16, _, fun_mk (st := sCanCome) l16 c16 k16, PySem.W.mg_of X G a16, (fun_mk (st := sCanCome) l16 c16 k16).binds (ps := ["web", "standing", "goal"]) fun _ _ _ _ _ _ us hl => match us, hl with | [_, _, _], _ => rfl⟩
  have D17 : Dn K mg "need_way" sNeedWay ["web", "standing", "goal"] := ⟨f17, _, fun_mk (st := sNeedWay) l17 c17 k17, PySem.W.mg_of X G a17, (fun_mk (st := sNeedWay) l17 c17 k17).binds (ps := ["web", "standing", "goal"]) fun _ _ _ _ _ _ us hl => match us, hl with | [_, _, _], _ => rfl⟩
  have D18 : Dn K mg "callers" sCallers ["web", "standing", "goal"] := ⟨f18, _, fun_mk (st := sCallers) l18 c18 k18, PySem.W.mg_of X G a18, (fun_mk (st := sCallers) l18 c18 k18).binds (ps := ["web", "standing", "goal"]) fun _ _ _ _ _ _ us hl => match us, hl with | [_, _, _], _ => rfl⟩
  have D19 : Dn K mg "leads" sLeads ["web", "standing", "goal", "people"] := ⟨f19, _, fun_mk (st := sLeads) l19 c19 k19, PySem.W.mg_of X G a19, (fun_mk (st := sLeads) l19 c19 k19).binds (ps := ["web", "standing", "goal", "people"]) fun _ _ _ _ _ _ us hl => match us, hl with | [_, _, _, _], _ => rfl⟩
  have D20 : Dn K mg "telling_in" sTellingIn ["web", "standing", "goal"] := ⟨f20, _, fun_mk (st := sTellingIn) l20 c20 k20, PySem.W.mg_of X G a20, (fun_mk (st := sTellingIn) l20 c20 k20).binds (ps := ["web", "standing", "goal"]) fun _ _ _ _ _ _ us hl => match us, hl with | [_, _, _], _ => rfl⟩
  have D21 : Dn K mg "telling" sTelling ["web", "standing", "goal"] := ⟨f21, _, fun_mk (st := sTelling) l21 c21 k21, PySem.W.mg_of X G a21, (fun_mk (st := sTelling) l21 c21 k21).binds (ps := ["web", "standing", "goal"]) fun _ _ _ _ _ _ us hl => match us, hl with | [_, _, _], _ => rfl⟩
  have D22 : Dn K mg "distance" sDistance ["web", "standing", "goal"] := ⟨f22, _, fun_mk (st := sDistance) l22 c22 k22, PySem.W.mg_of X G a22, (fun_mk (st := sDistance) l22 c22 k22).binds (ps := ["web", "standing", "goal"]) fun _ _ _ _ _ _ us hl => match us, hl with | [_, _, _], _ => rfl⟩
  have D23 : Dn K mg "reached_from" sReachedFrom ["web", "standing"] := ⟨f23, _, fun_mk (st := sReachedFrom) l23 c23 k23, PySem.W.mg_of X G a23, (fun_mk (st := sReachedFrom) l23 c23 k23).binds (ps := ["web", "standing"]) fun _ _ _ _ _ _ us hl => match us, hl with | [_, _], _ => rfl⟩
  have D24 : Dn K mg "reached" sReached ["web", "standing"] := ⟨f24, _, fun_mk (st := sReached) l24 c24 k24, PySem.W.mg_of X G a24, (fun_mk (st := sReached) l24 c24 k24).binds (ps := ["web", "standing"]) fun _ _ _ _ _ _ us hl => match us, hl with | [_, _], _ => rfl⟩
  have D25 : Dn K mg "ends_in" sEndsIn ["web", "standing"] := ⟨f25, _, fun_mk (st := sEndsIn) l25 c25 k25, PySem.W.mg_of X G a25, (fun_mk (st := sEndsIn) l25 c25 k25).binds (ps := ["web", "standing"]) fun _ _ _ _ _ _ us hl => match us, hl with | [_, _], _ => rfl⟩
  have D26 : Dn K mg "ends" sEnds ["web", "standing"] := ⟨f26, _, fun_mk (st := sEnds) l26 c26 k26, PySem.W.mg_of X G a26, (fun_mk (st := sEnds) l26 c26 k26).binds (ps := ["web", "standing"]) fun _ _ _ _ _ _ us hl => match us, hl with | [_, _], _ => rfl⟩
  have D27 : Dn K mg "need_weights" sNeedWeights ["web", "weights"] := ⟨f27, _, fun_mk (st := sNeedWeights) l27 c27 k27, PySem.W.mg_of X G a27, (fun_mk (st := sNeedWeights) l27 c27 k27).binds (ps := ["web", "weights"]) fun _ _ _ _ _ _ us hl => match us, hl with | [_, _], _ => rfl⟩
  have D28 : Dn K mg "cheapest_telling" sCheapestTelling ["web", "standing", "goal", "weights"] := ⟨f28, _, fun_mk (st := sCheapestTelling) l28 c28 k28, PySem.W.mg_of X G a28, (fun_mk (st := sCheapestTelling) l28 c28 k28).binds (ps := ["web", "standing", "goal", "weights"]) fun _ _ _ _ _ _ us hl => match us, hl with | [_, _, _, _], _ => rfl⟩
  have D29 : Dn K mg "worth" sWorth ["web", "standing", "weights"] := ⟨f29, _, fun_mk (st := sWorth) l29 c29 k29, PySem.W.mg_of X G a29, (fun_mk (st := sWorth) l29 c29 k29).binds (ps := ["web", "standing", "weights"]) fun _ _ _ _ _ _ us hl => match us, hl with | [_, _, _], _ => rfl⟩
  have D30 : Dn K mg "cheapest_end" sCheapestEnd ["web", "standing", "weights"] := ⟨f30, _, fun_mk (st := sCheapestEnd) l30 c30 k30, PySem.W.mg_of X G a30, (fun_mk (st := sCheapestEnd) l30 c30 k30).binds (ps := ["web", "standing", "weights"]) fun _ _ _ _ _ _ us hl => match us, hl with | [_, _, _], _ => rfl⟩
  have D31 : Dn K mg "tight_telling" sTightTelling ["web", "standing", "goal"] := ⟨f31, _, fun_mk (st := sTightTelling) l31 c31 k31, PySem.W.mg_of X G a31, (fun_mk (st := sTightTelling) l31 c31 k31).binds (ps := ["web", "standing", "goal"]) fun _ _ _ _ _ _ us hl => match us, hl with | [_, _, _], _ => rfl⟩
  have D32 : Dn K mg "must_call" sMustCall ["web", "standing", "goal"] := ⟨f32, _, fun_mk (st := sMustCall) l32 c32 k32, PySem.W.mg_of X G a32, (fun_mk (st := sMustCall) l32 c32 k32).binds (ps := ["web", "standing", "goal"]) fun _ _ _ _ _ _ us hl => match us, hl with | [_, _, _], _ => rfl⟩
  have D33 : Dn K mg "told" sTold ["web", "standing", "people"] := ⟨f33, _, fun_mk (st := sTold) l33 c33 k33, PySem.W.mg_of X G a33, (fun_mk (st := sTold) l33 c33 k33).binds (ps := ["web", "standing", "people"]) fun _ _ _ _ _ _ us hl => match us, hl with | [_, _, _], _ => rfl⟩
  have D34 : Dn K mg "told_in" sToldIn ["web", "standing", "people"] := ⟨f34, _, fun_mk (st := sToldIn) l34 c34 k34, PySem.W.mg_of X G a34, (fun_mk (st := sToldIn) l34 c34 k34).binds (ps := ["web", "standing", "people"]) fun _ _ _ _ _ _ us hl => match us, hl with | [_, _, _], _ => rfl⟩
  have D35 : Dn K mg "_law_taken" sLawTaken ["_law_row", "_law_many"] := ⟨f35, _, fun_mk (st := sLawTaken) l35 c35 k35, PySem.W.mg_of X G a35, (fun_mk (st := sLawTaken) l35 c35 k35).binds (ps := ["_law_row", "_law_many"]) fun _ _ _ _ _ _ us hl => match us, hl with | [_, _], _ => rfl⟩
  have D36 : Dn K mg "_law_pick" sLawPick ["_law_row", "_law_kinds"] := ⟨f36, _, fun_mk (st := sLawPick) l36 c36 k36, PySem.W.mg_of X G a36, (fun_mk (st := sLawPick) l36 c36 k36).binds (ps := ["_law_row", "_law_kinds"]) fun _ _ _ _ _ _ us hl => match us, hl with | [_, _], _ => rfl⟩
  have D37 : Dn K mg "_law_by" sLawBy ["_law_many", "_law_couples"] := ⟨f37, _, fun_mk (st := sLawBy) l37 c37 k37, PySem.W.mg_of X G a37, (fun_mk (st := sLawBy) l37 c37 k37).binds (ps := ["_law_many", "_law_couples"]) fun _ _ _ _ _ _ us hl => match us, hl with | [_, _], _ => rfl⟩
  have D38 : Dn K mg "_law_web" sLawWeb ["_law_row", "_law_most"] := ⟨f38, _, fun_mk (st := sLawWeb) l38 c38 k38, PySem.W.mg_of X G a38, (fun_mk (st := sLawWeb) l38 c38 k38).binds (ps := ["_law_row", "_law_most"]) fun _ _ _ _ _ _ us hl => match us, hl with | [_, _], _ => rfl⟩
  have D39 : Dn K mg "_law_up" sLawUp ["_law_row", "_law_web_here"] := ⟨f39, _, fun_mk (st := sLawUp) l39 c39 k39, PySem.W.mg_of X G a39, (fun_mk (st := sLawUp) l39 c39 k39).binds (ps := ["_law_row", "_law_web_here"]) fun _ _ _ _ _ _ us hl => match us, hl with | [_, _], _ => rfl⟩
  have F40 := fun_mk (st := sLaw) l40 c40 k40
  refine ⟨PySem.W.fnOf "law" "law" (defArgs sLaw) (defBody sLaw) (defScope sLaw) .none kV40 dc40 pm40 an40 cd40 ct40, fun s v => .of_eq rfl, fun base _ _ => ?_⟩
  have C1 := k_is_integer (P := l.prog) (w := w) (base := base) D1 T
  have C2 := k_is_in (P := l.prog) (w := w) (base := base) D2 T C1
  have C3 := k_is_list (P := l.prog) (w := w) (base := base) D3 T
  have C4 := k_need_web (P := l.prog) (w := w) (base := base) D4 T C3 C2
  have C5 := k_is_set (P := l.prog) (w := w) (base := base) D5 T C3 C2
  have C6 := k_need_people (P := l.prog) (w := w) (base := base) D6 C5
  have C7 := k_need_state (P := l.prog) (w := w) (base := base) D7 C4 C5
  have C8 := k_need_two (P := l.prog) (w := w) (base := base) D8 C7 C5
  have C9 := k_taller_in (P := l.prog) (w := w) (base := base) D9 T
  have C10 := k_apart_in (P := l.prog) (w := w) (base := base) D10 T
  have C11 := k_choices (P := l.prog) (w := w) (base := base) D11 T
  have C12 := k_call_in (P := l.prog) (w := w) (base := base) D12 T
  have C13 := k_movers_in (P := l.prog) (w := w) (base := base) D13 T
  have C14 := k_may_call (P := l.prog) (w := w) (base := base) D14 T
  have C15 := k_fits (P := l.prog) (w := w) (base := base) D15 T C14 C9
  have C16 := k_can_come (P := l.prog) (w := w) (base := base) D16 C8 C15
  have C17 := k_need_way (P := l.prog) (w := w) (base := base) D17 C8 C15
  have C18 := k_callers (P := l.prog) (w := w) (base := base) D18 C17 C14
  have C19 := k_leads (P := l.prog) (w := w) (base := base) D19 T C12
  have C20 := k_telling_in (P := l.prog) (w := w) (base := base) D20 T C11 C14 C19
  have C21 := k_telling (P := l.prog) (w := w) (base := base) D21 C17 C20
  have C22 := k_distance (P := l.prog) (w := w) (base := base) D22 T C17 C20
  have C23 := k_reached_from (P := l.prog) (w := w) (base := base) D23 T C13 C12
  have C24 := k_reached (P := l.prog) (w := w) (base := base) D24 T C7 C23
  have C25 := k_ends_in (P := l.prog) (w := w) (base := base) D25 T C11 C10 C15
  have C26 := k_ends (P := l.prog) (w := w) (base := base) D26 C7 C25
  have C27 := k_need_weights (P := l.prog) (w := w) (base := base) D27 T C3 C2
  have C28 := k_cheapest_telling (P := l.prog) (w := w) (base := base) D28 T C8 C27 C17 C20
  have C29 := k_worth (P := l.prog) (w := w) (base := base) D29 T C7 C27
  have C30 := k_cheapest_end (P := l.prog) (w := w) (base := base) D30 T C7 C27 C25 C20
  have C31 := k_tight_telling (P := l.prog) (w := w) (base := base) D31 T C17 C20
  have C32 := k_must_call (P := l.prog) (w := w) (base := base) D32 T C17 C20
  have C34 := k_told_in (P := l.prog) (w := w) (base := base) D34 T
  have C33 := k_told (P := l.prog) (w := w) (base := base) D33 T C7 C6 C34
  have C35 := k_law_taken (P := l.prog) (w := w) (base := base) D35 T
  have C36 := k_law_pick (P := l.prog) (w := w) (base := base) D36 T C35
  have C37 := k_law_by (P := l.prog) (w := w) (base := base) D37 T
  have C38 := k_law_web (P := l.prog) (w := w) (base := base) D38 T C35 C37
  have C39 := k_law_up (P := l.prog) (w := w) (base := base) D39 T C35
  exact k_law F40 T C38 C39 C35 C36 C24 C28 C32 C18 C29 C31 C33 C22 C21 C16 C30 C26
end K87
open PySem PySem.W PyProof.Rows
set_option maxHeartbeats 0 in
theorem PySem.Challenge.cw_tallsits_k87_whole_weights_of_callers_holds : PySem.Challenge.rw_tallsits_k87_whole_weights_of_callers.Holds := by
  w_on; o_law; k_head; (case hw => w_witness2)
  k_fill
  refine L2.walk_of (l := PySem.Challenge.rw_tallsits_k87_whole_weights_of_callers) (n := 63) (k := 8) (x := "_law_script") (CX := fun _ => L2.CX0) (sp := fun w => K87.spLaw _) rfl (by decide) rfl ⟨rfl, by decide, by decide⟩ (fun w h Y => PySem.W.kIn_of Y) ?F (fun _ _ a ns hl _ hS => ⟨a, ns, rfl, hS, hl, fun _ => rfl⟩) (fun _ _ _ _ _ h => h)
  case F =>
    intro w mg fa h KX G hmg
    refine' K87.all_mk KX G hmg ?a1 ?l1 ?c1 ?k1 ?a2 ?l2 ?c2 ?k2 ?a3 ?l3 ?c3 ?k3 ?a4 ?l4 ?c4 ?k4 ?a5 ?l5 ?c5 ?k5 ?a6 ?l6 ?c6 ?k6 ?a7 ?l7 ?c7 ?k7 ?a8 ?l8 ?c8 ?k8 ?a9 ?l9 ?c9 ?k9 ?a10 ?l10 ?c10 ?k10 ?a11 ?l11 ?c11 ?k11 ?a12 ?l12 ?c12 ?k12 ?a13 ?l13 ?c13 ?k13 ?a14 ?l14 ?c14 ?k14 ?a15 ?l15 ?c15 ?k15 ?a16 ?l16 ?c16 ?k16 ?a17 ?l17 ?c17 ?k17 ?a18 ?l18 ?c18 ?k18 ?a19 ?l19 ?c19 ?k19 ?a20 ?l20 ?c20 ?k20 ?a21 ?l21 ?c21 ?k21 ?a22 ?l22 ?c22 ?k22 ?a23 ?l23 ?c23 ?k23 ?a24 ?l24 ?c24 ?k24 ?a25 ?l25 ?c25 ?k25 ?a26 ?l26 ?c26 ?k26 ?a27 ?l27 ?c27 ?k27 ?a28 ?l28 ?c28 ?k28 ?a29 ?l29 ?c29 ?k29 ?a30 ?l30 ?c30 ?k30 ?a31 ?l31 ?c31 ?k31 ?a32 ?l32 ?c32 ?k32 ?a33 ?l33 ?c33 ?k33 ?a34 ?l34 ?c34 ?k34 ?a35 ?l35 ?c35 ?k35 ?a36 ?l36 ?c36 ?k36 ?a37 ?l37 ?c37 ?k37 ?a38 ?l38 ?c38 ?k38 ?a39 ?l39 ?c39 ?k39 ?a40 ?l40 ?c40 ?k40 ?z1 ?z2 ?z3 ?z4 ?z5 ?z6 ?z7 ?z8 ?z9 ?z10 ?z11 ?z12 ?z13 ?z14 ?m7
    (case a1 => k_is); (case l1 => k_is); (case c1 => k_is); (case k1 => k_is); (case a2 => k_is); (case l2 => k_is); (case c2 => k_is); (case k2 => k_is)
    (case a3 => k_is); (case l3 => k_is); (case c3 => k_is); (case k3 => k_is); (case a4 => k_is); (case l4 => k_is); (case c4 => k_is); (case k4 => k_is)
    (case a5 => k_is); (case l5 => k_is); (case c5 => k_is); (case k5 => k_is); (case a6 => k_is); (case l6 => k_is); (case c6 => k_is); (case k6 => k_is)
    (case a7 => k_is); (case l7 => k_is); (case c7 => k_is); (case k7 => k_is); (case a8 => k_is); (case l8 => k_is); (case c8 => k_is); (case k8 => k_is)
    (case a9 => k_is); (case l9 => k_is); (case c9 => k_is); (case k9 => k_is); (case a10 => k_is); (case l10 => k_is); (case c10 => k_is); (case k10 => k_is)
    (case a11 => k_is); (case l11 => k_is); (case c11 => k_is); (case k11 => k_is); (case a12 => k_is); (case l12 => k_is); (case c12 => k_is); (case k12 => k_is)
    (case a13 => k_is); (case l13 => k_is); (case c13 => k_is); (case k13 => k_is); (case a14 => k_is); (case l14 => k_is); (case c14 => k_is); (case k14 => k_is)
    (case a15 => k_is); (case l15 => k_is); (case c15 => k_is); (case k15 => k_is); (case a16 => k_is); (case l16 => k_is); (case c16 => k_is); (case k16 => k_is)
    (case a17 => k_is); (case l17 => k_is); (case c17 => k_is); (case k17 => k_is); (case a18 => k_is); (case l18 => k_is); (case c18 => k_is); (case k18 => k_is)
    (case a19 => k_is); (case l19 => k_is); (case c19 => k_is); (case k19 => k_is); (case a20 => k_is); (case l20 => k_is); (case c20 => k_is); (case k20 => k_is)
    (case a21 => k_is); (case l21 => k_is); (case c21 => k_is); (case k21 => k_is); (case a22 => k_is); (case l22 => k_is); (case c22 => k_is); (case k22 => k_is)
    (case a23 => k_is); (case l23 => k_is); (case c23 => k_is); (case k23 => k_is); (case a24 => k_is); (case l24 => k_is); (case c24 => k_is); (case k24 => k_is)
    (case a25 => k_is); (case l25 => k_is); (case c25 => k_is); (case k25 => k_is); (case a26 => k_is); (case l26 => k_is); (case c26 => k_is); (case k26 => k_is)
    (case a27 => k_is); (case l27 => k_is); (case c27 => k_is); (case k27 => k_is); (case a28 => k_is); (case l28 => k_is); (case c28 => k_is); (case k28 => k_is)
    (case a29 => k_is); (case l29 => k_is); (case c29 => k_is); (case k29 => k_is); (case a30 => k_is); (case l30 => k_is); (case c30 => k_is); (case k30 => k_is)
    (case a31 => k_is); (case l31 => k_is); (case c31 => k_is); (case k31 => k_is); (case a32 => k_is); (case l32 => k_is); (case c32 => k_is); (case k32 => k_is)
    (case a33 => k_is); (case l33 => k_is); (case c33 => k_is); (case k33 => k_is); (case a34 => k_is); (case l34 => k_is); (case c34 => k_is); (case k34 => k_is)
    (case a35 => k_is); (case l35 => k_is); (case c35 => k_is); (case k35 => k_is); (case a36 => k_is); (case l36 => k_is); (case c36 => k_is); (case k36 => k_is)
    (case a37 => k_is); (case l37 => k_is); (case c37 => k_is); (case k37 => k_is); (case a38 => k_is); (case l38 => k_is); (case c38 => k_is); (case k38 => k_is)
    (case a39 => k_is); (case l39 => k_is); (case c39 => k_is); (case k39 => k_is); (case a40 => k_is); (case l40 => k_is); (case c40 => k_is); (case k40 => k_is)
    (case z1 => k_is); (case z2 => k_is); (case z3 => k_is); (case z4 => k_is); (case z5 => k_is); (case z6 => k_is); (case z7 => k_is); (case z8 => k_is)
    (case z9 => k_is); (case z10 => k_is); (case z11 => k_is); (case z12 => k_is); (case z13 => k_is); (case z14 => k_is); (case m7 => k_is)
