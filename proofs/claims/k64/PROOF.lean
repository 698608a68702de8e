import PyProof.Rows.All
import Wide.All
import OpenK.AllK
import Wide.FinOn
import KE.KStateDown
import Lean
import HandS.ForMost
import HandS.Defaults
import PySem.Challenge.RW_failslack_k64_whole_what_would_let_it_in
import HandS.Exc
import HandS.Codes
import HandS.Lambda
import HandS.Nested
import HandS.EndTab
import HandS.Head0
import HandS.Head1
import HandS.Head2
import HandS.HeadEnd
import HandS.HeadHook1
import HandS.HeadHook2
import HandS.HeadHook3
import HandS.HeadHook4
import HandS.HeadWalk
import HandS.ClsMeth
import KE.KLam
import HandS.TryOnly
import KE.KDictSum
import KE.DatumOrd
import HandS.Conv
import HandS.Strs
import HandS.SetFor
import HandS.SortInts
import HandS.SortKw
import HandS.Sort
import HandS.Evl
import HandS.IsInst
import HandS.TupAny
import HandS.NoneIn
import HandS.Style
import HandS.Wide
import HandS.Iter
/-! plain law: rows, need, Kept, the runs; no program in sight -/
namespace Fm
structure Rw (N : Type) where
  n : N
  f : Int
  l : Int
  c : Int
  r : Int
  deriving DecidableEq

/-! ### sums, greatest -/
def mx (l : List Int) : Int := l.foldr max 0
theorem mx_nil : mx [] = 0 := rfl
theorem mx_cons (a : Int) (l : List Int) : mx (a :: l) = max a (mx l) := rfl
theorem mx_nonneg : ∀ l : List Int, 0 ≤ mx l
  | [] => by simp [mx]
  | a :: l => by rw [mx_cons]; have := mx_nonneg l; omega
theorem le_mx : ∀ {l : List Int} {a : Int}, a ∈ l → a ≤ mx l
  | b :: l, a, h => by
    rw [mx_cons]
    rcases List.mem_cons.mp h with rfl | h
    · omega
    · have := le_mx h; omega
theorem mx_le : ∀ {l : List Int} {b : Int}, 0 ≤ b → (∀ a ∈ l, a ≤ b) → mx l ≤ b
  | [], b, h, _ => h
  | a :: l, b, h, k => by
    rw [mx_cons]
    have h1 := k a List.mem_cons_self
    have h2 := mx_le (l := l) h fun x hx => k x (List.mem_cons_of_mem _ hx)
    omega
theorem mx_app (a b : List Int) : mx (a ++ b) = max (mx a) (mx b) := by
  induction a with
  | nil => have := mx_nonneg b; simp [mx_nil]; omega
  | cons x a ih => rw [List.cons_append, mx_cons, mx_cons, ih]; omega
theorem mx_mem_of : ∀ {l : List Int}, (∀ a ∈ l, 1 ≤ a) → l ≠ [] → mx l ∈ l
  | [a], h, _ => by
    have := h a List.mem_cons_self
    rw [mx_cons, mx_nil, show max a 0 = a by omega]; exact List.mem_cons_self
  | a :: b :: l, h, _ => by
    have ih := mx_mem_of (l := b :: l) (fun x hx => h x (List.mem_cons_of_mem _ hx)) (List.cons_ne_nil _ _)
    rw [mx_cons]
    by_cases q : a ≤ mx (b :: l)
    · rw [show max a (mx (b :: l)) = mx (b :: l) by omega]; exact List.mem_cons_of_mem _ ih
    · rw [show max a (mx (b :: l)) = a by omega]; exact List.mem_cons_self
/-- max of a list with 0 behind it; what max(.., default=0) gives -/
theorem mx_eq {l : List Int} {m : Int} (h1 : m ∈ l ∨ m = 0) (h0 : 0 ≤ m) (h2 : ∀ a ∈ l, a ≤ m) : m = mx l := by
  have a1 := mx_le h0 h2
  rcases h1 with h | h
  · have := le_mx h; omega
  · have := mx_nonneg l; omega

theorem sum_nonneg : ∀ {l : List Int}, (∀ a ∈ l, 0 ≤ a) → 0 ≤ l.sum
  | [], _ => by simp
  | a :: l, h => by
    have h1 := h a List.mem_cons_self
    have h2 := sum_nonneg (l := l) fun x hx => h x (List.mem_cons_of_mem _ hx)
    rw [List.sum_cons]; omega

/-! ### sorted, each once -/
def ins (x : Int) : List Int → List Int
  | [] => [x]
  | y :: l => if x < y then x :: y :: l else if x = y then y :: l else y :: ins x l
def srt (l : List Int) : List Int := l.foldr ins []
theorem mem_ins {x y : Int} : ∀ {l : List Int}, y ∈ ins x l ↔ y = x ∨ y ∈ l
  | [] => by simp [ins]
  | z :: l => by
    unfold ins
    split
    · simp
    · split
      · rename_i h; subst h; simp
      · have ih := mem_ins (x := x) (y := y) (l := l)
        simp only [List.mem_cons, ih]
        constructor
        · rintro (h | h | h)
          · exact .inr (.inl h)
          · exact .inl h
          · exact .inr (.inr h)
        · rintro (h | h | h)
          · exact .inr (.inl h)
          · exact .inl h
          · exact .inr (.inr h)
theorem ins_sorted {x : Int} : ∀ {l : List Int}, l.Pairwise (· < ·) → (ins x l).Pairwise (· < ·)
  | [], _ => by simp [ins]
  | z :: l, h => by
    have hp := List.pairwise_cons.mp h
    unfold ins
    split
    · rename_i q
      refine List.pairwise_cons.mpr ⟨fun a ha => ?_, h⟩
      rcases List.mem_cons.mp ha with rfl | ha
      · exact q
      · have := hp.1 a ha; omega
    · split
      · exact h
      · rename_i q1 q2
        refine List.pairwise_cons.mpr ⟨fun a ha => ?_, ins_sorted hp.2⟩
        rcases mem_ins.mp ha with rfl | ha
        · omega
        · exact hp.1 a ha
theorem mem_srt {y : Int} : ∀ {l : List Int}, y ∈ srt l ↔ y ∈ l
  | [] => by simp [srt]
  | x :: l => by
    show y ∈ ins x (srt l) ↔ _
    rw [mem_ins, mem_srt, List.mem_cons]
theorem srt_sorted : ∀ l : List Int, (srt l).Pairwise (· < ·)
  | [] => List.Pairwise.nil
  | x :: l => ins_sorted (srt_sorted l)
theorem sorted_unique : ∀ {a b : List Int}, a.Pairwise (· < ·) → b.Pairwise (· < ·) → (∀ x, x ∈ a ↔ x ∈ b) → a = b
  | [], [], _, _, _ => rfl
  | [], y :: b, _, _, h => absurd ((h y).mpr List.mem_cons_self) (by simp)
  | x :: a, [], _, _, h => absurd ((h x).mp List.mem_cons_self) (by simp)
  | x :: a, y :: b, ha, hb, h => by
    have pa := List.pairwise_cons.mp ha
    have pb := List.pairwise_cons.mp hb
    have e : x = y := by
      rcases List.mem_cons.mp ((h x).mp List.mem_cons_self) with e | e
      · exact e
      · rcases List.mem_cons.mp ((h y).mpr List.mem_cons_self) with e' | e'
        · exact e'.symm
        · have h1 := pa.1 y e'
          have h2 := pb.1 x e
          omega
    subst e
    rw [sorted_unique pa.2 pb.2 fun z => ?_]
    constructor
    · intro hz
      rcases List.mem_cons.mp ((h z).mp (List.mem_cons_of_mem _ hz)) with e | e
      · have := pa.1 z hz; omega
      · exact e
    · intro hz
      rcases List.mem_cons.mp ((h z).mpr (List.mem_cons_of_mem _ hz)) with e | e
      · have := pb.1 z hz; omega
      · exact e
theorem srt_eq {l ns : List Int} (h : ns.Pairwise (· < ·)) (m : ∀ k, k ∈ ns ↔ k ∈ l) : ns = srt l :=
  sorted_unique h (srt_sorted l) fun x => (m x).trans mem_srt.symm
theorem srt_self {l : List Int} (h : l.Pairwise (· < ·)) : srt l = l := (srt_eq h fun _ => Iff.rfl).symm
theorem ins_len (x : Int) : ∀ l : List Int, (ins x l).length ≤ l.length + 1
  | [] => by simp [ins]
  | y :: l => by
    unfold ins
    split
    · simp
    · split
      · simp
      · have := ins_len x l; simp only [List.length_cons]; omega
theorem srt_len : ∀ l : List Int, (srt l).length ≤ l.length
  | [] => by simp [srt]
  | x :: l => by
    have h1 := ins_len x (srt l)
    have h2 := srt_len l
    show (ins x (srt l)).length ≤ _
    rw [List.length_cons]; omega

section
variable {N : Type}
def inb (s e : Int) (r : Rw N) : Bool := decide (s ≤ r.f) && decide (r.l ≤ e)
def within (rs : List (Rw N)) (s e : Int) : List (Rw N) := rs.filter (inb s e)
def lefts (rs : List (Rw N)) (s e : Int) : Int := ((within rs s e).map (·.r)).sum
def gl (rs : List (Rw N)) (s e : Int) : Int := mx ((within rs s e).map (·.c))
def need (rs : List (Rw N)) (s e k : Int) : Int := lefts rs s e + k * gl rs s e
def starts (rs : List (Rw N)) : List Int := srt (rs.map (·.f))
def ends (rs : List (Rw N)) : List Int := srt (rs.map (·.l))
def stretches (rs : List (Rw N)) : List (Int × Int) := (starts rs).flatMap fun s => ((ends rs).filter fun e => decide (s - 1 ≤ e) && !(within rs s e).isEmpty).map fun e => (s, e)
def tooShort (rs : List (Rw N)) (k : Int) : Option (Int × Int) := (stretches rs).find? fun p => decide (p.2 - p.1 + 1 < need rs p.1 p.2 k)
def kept (rs : List (Rw N)) (k : Int) : Bool := (tooShort rs k).isNone
def lawShort (rs : List (Rw N)) (k : Int) : List (Int × Int) := (starts rs).flatMap fun s => ((ends rs).filter fun e => decide (s - 1 ≤ e) && decide (e - s + 1 < need rs s e k)).map fun e => (s, e)
/-- what both say -/
def Kept (rs : List (Rw N)) (k : Int) : Prop := ∀ s e, s ≤ e + 1 → need rs s e k ≤ e - s + 1
structure Ok (r : Rw N) : Prop where
  f0 : 0 ≤ r.f
  fl : r.f ≤ r.l
  l1 : r.l ≤ 199
  c1 : 1 ≤ r.c
  c2 : r.c ≤ 12
  r0 : 0 ≤ r.r
  rc : r.r ≤ r.c
def Oks (rs : List (Rw N)) : Prop := ∀ r ∈ rs, Ok r

theorem inb_iff {s e : Int} {r : Rw N} : inb s e r = true ↔ s ≤ r.f ∧ r.l ≤ e := by simp [inb]
theorem mem_within {rs : List (Rw N)} {s e : Int} {r : Rw N} : r ∈ within rs s e ↔ r ∈ rs ∧ s ≤ r.f ∧ r.l ≤ e := by
  unfold within; rw [List.mem_filter, inb_iff]
theorem lefts_nonneg {rs : List (Rw N)} (h : Oks rs) (s e : Int) : 0 ≤ lefts rs s e := sum_nonneg fun a ha => by
  obtain ⟨r, hr, rfl⟩ := List.mem_map.mp ha
  exact (h r (mem_within.mp hr).1).r0
theorem gl_nonneg (rs : List (Rw N)) (s e : Int) : 0 ≤ gl rs s e := mx_nonneg _
theorem within_app (rs qs : List (Rw N)) (s e : Int) : within (rs ++ qs) s e = within rs s e ++ within qs s e := List.filter_append ..
theorem lefts_app (rs qs : List (Rw N)) (s e : Int) : lefts (rs ++ qs) s e = lefts rs s e + lefts qs s e := by
  unfold lefts; rw [within_app, List.map_append, List.sum_append]
theorem gl_app (rs qs : List (Rw N)) (s e : Int) : gl (rs ++ qs) s e = max (gl rs s e) (gl qs s e) := by
  unfold gl; rw [within_app, List.map_append, mx_app]
theorem within_nil_need {rs : List (Rw N)} {s e k : Int} (h : within rs s e = []) : need rs s e k = 0 := by
  unfold need lefts gl; rw [h]; simp [mx]
/-- the least first turn of some rows, the greatest last turn -/
theorem exists_min : ∀ {l : List (Rw N)}, l ≠ [] → ∃ r ∈ l, ∀ q ∈ l, r.f ≤ q.f
  | [a], _ => ⟨a, List.mem_cons_self, fun q hq => by rcases List.mem_cons.mp hq with rfl | h; exact Int.le_refl _; cases h⟩
  | a :: b :: l, _ => by
    obtain ⟨r, hr, hm⟩ := exists_min (l := b :: l) (List.cons_ne_nil _ _)
    by_cases h : a.f ≤ r.f
    · refine ⟨a, List.mem_cons_self, fun q hq => ?_⟩
      rcases List.mem_cons.mp hq with rfl | hq
      · exact Int.le_refl _
      · have := hm q hq; omega
    · refine ⟨r, List.mem_cons_of_mem _ hr, fun q hq => ?_⟩
      rcases List.mem_cons.mp hq with rfl | hq
      · omega
      · exact hm q hq
theorem exists_max : ∀ {l : List (Rw N)}, l ≠ [] → ∃ r ∈ l, ∀ q ∈ l, q.l ≤ r.l
  | [a], _ => ⟨a, List.mem_cons_self, fun q hq => by rcases List.mem_cons.mp hq with rfl | h; exact Int.le_refl _; cases h⟩
  | a :: b :: l, _ => by
    obtain ⟨r, hr, hm⟩ := exists_max (l := b :: l) (List.cons_ne_nil _ _)
    by_cases h : r.l ≤ a.l
    · refine ⟨a, List.mem_cons_self, fun q hq => ?_⟩
      rcases List.mem_cons.mp hq with rfl | hq
      · exact Int.le_refl _
      · have := hm q hq; omega
    · refine ⟨r, List.mem_cons_of_mem _ hr, fun q hq => ?_⟩
      rcases List.mem_cons.mp hq with rfl | hq
      · omega
      · exact hm q hq
/-- each stretch with somebody within has one of the table with the same rows within, and no more room -/
theorem shrink {rs : List (Rw N)} (ok : Oks rs) {s e : Int} (h : within rs s e ≠ []) :
    ∃ s' e', s' ∈ starts rs ∧ e' ∈ ends rs ∧ s' ≤ e' ∧ s ≤ s' ∧ e' ≤ e ∧ within rs s' e' = within rs s e := by
  obtain ⟨a, ha, ma⟩ := exists_min h
  obtain ⟨b, hb, mb⟩ := exists_max h
  have ha' := mem_within.mp ha
  have hb' := mem_within.mp hb
  refine ⟨a.f, b.l, mem_srt.mpr (List.mem_map.mpr ⟨a, ha'.1, rfl⟩), mem_srt.mpr (List.mem_map.mpr ⟨b, hb'.1, rfl⟩), ?_, ha'.2.1, hb'.2.2, ?_⟩
  · have h1 := mb a ha
    have h2 := (ok a ha'.1).fl
    omega
  · unfold within
    refine List.filter_congr fun r hr => ?_
    rw [Bool.eq_iff_iff, inb_iff, inb_iff]
    constructor
    · rintro ⟨h1, h2⟩; exact ⟨by omega, by omega⟩
    · rintro ⟨h1, h2⟩
      have hm : r ∈ within rs s e := mem_within.mpr ⟨hr, h1, h2⟩
      exact ⟨ma r hm, mb r hm⟩
theorem need_within {rs : List (Rw N)} {s e s' e' k : Int} (h : within rs s' e' = within rs s e) : need rs s' e' k = need rs s e k := by
  unfold need lefts gl; rw [h]
theorem mem_stretches {rs : List (Rw N)} {p : Int × Int} : p ∈ stretches rs ↔ p.1 ∈ starts rs ∧ p.2 ∈ ends rs ∧ p.1 - 1 ≤ p.2 ∧ within rs p.1 p.2 ≠ [] := by
  unfold stretches
  simp only [List.mem_flatMap, List.mem_map, List.mem_filter, Bool.and_eq_true, decide_eq_true_eq, Bool.not_eq_true', List.isEmpty_eq_false_iff]
  constructor
  · rintro ⟨s, hs, e, ⟨he, h1, h2⟩, rfl⟩; exact ⟨hs, he, h1, h2⟩
  · rintro ⟨h1, h2, h3, h4⟩; exact ⟨p.1, h1, p.2, ⟨h2, h3, h4⟩, rfl⟩
theorem kept_iff {rs : List (Rw N)} (ok : Oks rs) {k : Int} : kept rs k = true ↔ Kept rs k := by
  unfold kept tooShort
  rw [Option.isNone_iff_eq_none, List.find?_eq_none]
  simp only [decide_eq_true_eq]
  constructor
  · intro h s e hse
    by_cases hw : within rs s e = []
    · rw [within_nil_need hw]; omega
    · obtain ⟨s', e', h1, h2, h3, h4, h5, h6⟩ := shrink ok hw
      have q := h (s', e') (mem_stretches.mpr ⟨h1, h2, by show s' - 1 ≤ e'; omega, by rw [h6]; exact hw⟩)
      have q' : ¬ (e' - s' + 1 < need rs s' e' k) := q
      rw [need_within h6] at q'
      omega
  · intro h p hp
    have q := mem_stretches.mp hp
    have := h p.1 p.2 (by have := q.2.2.1; omega)
    omega
theorem lawShort_iff {rs : List (Rw N)} (ok : Oks rs) {k : Int} : lawShort rs k = [] ↔ Kept rs k := by
  constructor
  · intro h s e hse
    by_cases hw : within rs s e = []
    · rw [within_nil_need hw]; omega
    · obtain ⟨s', e', h1, h2, h3, h4, h5, h6⟩ := shrink ok hw
      by_cases q : e' - s' + 1 < need rs s' e' k
      · have hm : (s', e') ∈ lawShort rs k := by
          unfold lawShort
          simp only [List.mem_flatMap, List.mem_map, List.mem_filter, Bool.and_eq_true, decide_eq_true_eq]
          exact ⟨s', h1, e', ⟨h2, by omega, q⟩, rfl⟩
        rw [h] at hm; cases hm
      · rw [need_within h6] at q; omega
  · intro h
    cases q : lawShort rs k with
    | nil => rfl
    | cons p l =>
      have hm : p ∈ lawShort rs k := by rw [q]; exact List.mem_cons_self
      unfold lawShort at hm
      simp only [List.mem_flatMap, List.mem_map, List.mem_filter, Bool.and_eq_true, decide_eq_true_eq] at hm
      obtain ⟨s, hs, e, ⟨he, h1, h2⟩, rfl⟩ := hm
      have := h s e (by omega)
      omega

/-! ### monotone -/
theorem need_one {r : Rw N} {s e : Int} : within [r] s e = if s ≤ r.f ∧ r.l ≤ e then [r] else [] := by
  unfold within
  by_cases h : s ≤ r.f ∧ r.l ≤ e
  · rw [if_pos h, List.filter_cons, if_pos (inb_iff.mpr h)]; rfl
  · rw [if_neg h, List.filter_cons, if_neg (fun z => h (inb_iff.mp z))]; rfl
/-- fewer within, lengths and lefts alike -/
theorem need_le_of {rs qs : List (Rw N)} {s e k : Int} (hk : 0 ≤ k) (h1 : lefts rs s e ≤ lefts qs s e) (h2 : gl rs s e ≤ gl qs s e) : need rs s e k ≤ need qs s e k := by
  unfold need
  have := Int.mul_le_mul_of_nonneg_left h2 hk
  omega
theorem need_app_le {rs qs : List (Rw N)} {s e k : Int} (hk : 0 ≤ k) (ok : Oks qs) : need rs s e k ≤ need (rs ++ qs) s e k :=
  need_le_of hk (by rw [lefts_app]; have := lefts_nonneg ok s e; omega) (by rw [gl_app]; omega)
/-- a row whose window is wider -/
structure Wider (r q : Rw N) : Prop where
  f : q.f ≤ r.f
  l : r.l ≤ q.l
  c : q.c = r.c
  r : q.r = r.r
theorem need_wider {rs : List (Rw N)} {r q : Rw N} {s e k : Int} (hk : 0 ≤ k) (w : Wider r q) (h0 : 0 ≤ r.r) : need (rs ++ [q]) s e k ≤ need (rs ++ [r]) s e k := by
  have a : lefts [q] s e ≤ lefts [r] s e ∧ gl [q] s e ≤ gl [r] s e := by
    unfold lefts gl
    rw [need_one, need_one]
    by_cases h : s ≤ q.f ∧ q.l ≤ e
    · have h' : s ≤ r.f ∧ r.l ≤ e := ⟨by have := w.f; omega, by have := w.l; omega⟩
      rw [if_pos h, if_pos h']
      simp [w.c, w.r]
    · rw [if_neg h]
      by_cases h' : s ≤ r.f ∧ r.l ≤ e
      · rw [if_pos h']; simp [mx]; omega
      · rw [if_neg h']; simp
  exact need_le_of hk (by rw [lefts_app, lefts_app]; omega) (by rw [gl_app, gl_app]; omega)
theorem Kept.wider {rs : List (Rw N)} {r q : Rw N} {k : Int} (h : Kept (rs ++ [r]) k) (hk : 0 ≤ k) (w : Wider r q) (h0 : 0 ≤ r.r) : Kept (rs ++ [q]) k := fun s e hse => by
  have h1 := h s e hse
  have h2 := need_wider (rs := rs) (s := s) (e := e) hk w h0
  omega
theorem need_mid_le {rs qs ps : List (Rw N)} {s e k : Int} (hk : 0 ≤ k) (ok : Oks qs) : need (rs ++ ps) s e k ≤ need (rs ++ qs ++ ps) s e k :=
  need_le_of hk (by rw [lefts_app, lefts_app, lefts_app]; have := lefts_nonneg ok s e; omega) (by rw [gl_app, gl_app, gl_app]; omega)
/-- a row refused stays refused where more rows stand ahead -/
theorem Kept.less {rs qs ps : List (Rw N)} {k : Int} (h : Kept (rs ++ qs ++ ps) k) (hk : 0 ≤ k) (ok : Oks qs) : Kept (rs ++ ps) k := fun s e hse => by
  have h1 := h s e hse
  have h2 := need_mid_le (rs := rs) (ps := ps) (s := s) (e := e) hk ok
  omega
theorem Kept.fewer {rs : List (Rw N)} {j k : Int} (h : Kept rs k) (hj : j ≤ k) : Kept rs j := fun s e hse => by
  have h1 := h s e hse
  have h2 := gl_nonneg rs s e
  have h3 := Int.mul_le_mul_of_nonneg_right hj h2
  unfold need at h1 ⊢
  omega
theorem kept_nil (k : Int) : Kept ([] : List (Rw N)) k := fun s e h => by rw [within_nil_need rfl]; omega

/-! ### how many failings are borne -/
/-- a stretch's: room less what is left, by the longest, not below -1 -/
def quo (rs : List (Rw N)) (p : Int × Int) : Int := max (-1) ((p.2 - p.1 + 1 - lefts rs p.1 p.2) / gl rs p.1 p.2)
theorem gl_pos {rs : List (Rw N)} (ok : Oks rs) {s e : Int} (h : within rs s e ≠ []) : 1 ≤ gl rs s e := by
  cases q : within rs s e with
  | nil => exact absurd q h
  | cons a l =>
    have hm : a ∈ within rs s e := by rw [q]; exact List.mem_cons_self
    have h1 : a.c ≤ gl rs s e := le_mx (List.mem_map.mpr ⟨a, hm, rfl⟩)
    have := (ok a (mem_within.mp hm).1).c1
    omega
theorem quo_iff {rs : List (Rw N)} (ok : Oks rs) {p : Int × Int} {k : Int} (hk : 0 ≤ k) (hw : within rs p.1 p.2 ≠ []) : k ≤ quo rs p ↔ need rs p.1 p.2 k ≤ p.2 - p.1 + 1 := by
  have h1 := gl_pos ok hw
  unfold quo need
  have e1 : k ≤ (p.2 - p.1 + 1 - lefts rs p.1 p.2) / gl rs p.1 p.2 ↔ k * gl rs p.1 p.2 ≤ p.2 - p.1 + 1 - lefts rs p.1 p.2 := Int.le_ediv_iff_mul_le (by omega)
  constructor
  · intro h
    have := e1.mp (by omega)
    omega
  · intro h
    have := e1.mpr (by omega)
    omega
/-- m is the least of the stretches' -/
theorem borne_iff {rs : List (Rw N)} (ok : Oks rs) {m k : Int} (hk : 0 ≤ k) (h1 : m ∈ (stretches rs).map (quo rs)) (h2 : ∀ y ∈ (stretches rs).map (quo rs), m ≤ y) : Kept rs k ↔ k ≤ m := by
  obtain ⟨p, hp, rfl⟩ := List.mem_map.mp h1
  constructor
  · intro h
    have q := mem_stretches.mp hp
    exact (quo_iff ok hk q.2.2.2).mpr (h p.1 p.2 (by have := q.2.2.1; omega))
  · intro h
    rw [← kept_iff ok]
    unfold kept tooShort
    rw [Option.isNone_iff_eq_none, List.find?_eq_none]
    intro q hq
    have w := mem_stretches.mp hq
    have := (quo_iff ok hk w.2.2.2).mp (Int.le_trans h (h2 _ (List.mem_map.mpr ⟨q, hq, rfl⟩)))
    simp only [decide_eq_true_eq]; omega
theorem quo_ge (rs : List (Rw N)) (p : Int × Int) : -1 ≤ quo rs p := by unfold quo; omega
theorem stretches_ne {rs : List (Rw N)} (ok : Oks rs) (h : rs ≠ []) : stretches rs ≠ [] := by
  cases rs with
  | nil => exact absurd rfl h
  | cons a l =>
    have hw : within (a :: l) a.f a.l ≠ [] := fun z => by
      have : a ∈ within (a :: l) a.f a.l := mem_within.mpr ⟨List.mem_cons_self, Int.le_refl _, Int.le_refl _⟩
      rw [z] at this; cases this
    have hm : (a.f, a.l) ∈ stretches (a :: l) := mem_stretches.mpr ⟨mem_srt.mpr (List.mem_map.mpr ⟨a, List.mem_cons_self, rfl⟩), mem_srt.mpr (List.mem_map.mpr ⟨a, List.mem_cons_self, rfl⟩), by have := (ok a List.mem_cons_self).fl; show a.f - 1 ≤ a.l; omega, hw⟩
    intro z; rw [z] at hm; cases hm
end
end Fm

set_option Elab.async false
set_option linter.all false
set_option maxRecDepth 100000
/-! the text by places -/
namespace Fs
open PySem PySem.Spec PyProof.Rows L2
def top (i : Nat) : Stmt := PySem.Challenge.pw_failslack_k64_whole_what_would_let_it_in.main.body.getD i (.Pass ⟨0, 0, 0, 0⟩)
abbrev s_is_whole : Stmt := top 14
abbrev s_is_within : Stmt := top 15
abbrev s_is_name : Stmt := top 16
abbrev s_is_counts : Stmt := top 19
abbrev s_need_counts : Stmt := top 20
abbrev s_Run_init : Stmt := inClass (top 21) 0
abbrev s_Run_end_try : Stmt := inClass (top 21) 1
abbrev s_Run_end_empty : Stmt := inClass (top 21) 2
abbrev s_Run_rests : Stmt := inClass (top 21) 3
abbrev s_Run_work_on : Stmt := inClass (top 21) 4
abbrev s_Run_rows : Stmt := inClass (top 21) 5
abbrev s_Run_ends : Stmt := inClass (top 21) 6
abbrev s_by_counts : Stmt := top 22
abbrev s_run : Stmt := top 23
abbrev s_is_stretch : Stmt := top 27
abbrev s_need_stretch : Stmt := top 28
abbrev s_need_failings : Stmt := top 29
abbrev s_room : Stmt := top 30
abbrev s_rows_within : Stmt := top 31
abbrev s_within : Stmt := top 32
abbrev s_lefts : Stmt := top 33
abbrev s_greatest_length : Stmt := top 34
abbrev s_longest : Stmt := top 35
abbrev s_need : Stmt := top 37
abbrev s_short : Stmt := top 38
abbrev s_stretches : Stmt := top 39
abbrev s_table : Stmt := top 41
abbrev s_too_short : Stmt := top 42
abbrev s_is_kept : Stmt := top 43
abbrev s_Paper_init : Stmt := inClass (top 45) 0
abbrev s_Paper_word : Stmt := inClass (top 45) 1
abbrev s_Paper_holds : Stmt := inClass (top 45) 2
abbrev s_Paper_failings : Stmt := inClass (top 45) 3
abbrev s_Paper_told : Stmt := inClass (top 45) 4
abbrev s_Kept_word : Stmt := inClass (top 46) 0
abbrev s_Kept_holds : Stmt := inClass (top 46) 1
abbrev s_Kept_order : Stmt := inClass (top 46) 2
abbrev s_Crowd_init : Stmt := inClass (top 47) 0
abbrev s_Crowd_word : Stmt := inClass (top 47) 1
abbrev s_Crowd_told : Stmt := inClass (top 47) 2
abbrev s_Crowd_stretch : Stmt := inClass (top 47) 3
abbrev s_Crowd_names : Stmt := inClass (top 47) 4
abbrev s_Crowd_longest : Stmt := inClass (top 47) 5
abbrev s_Crowd_over : Stmt := inClass (top 47) 6
abbrev s_Crowd_holds : Stmt := inClass (top 47) 7
abbrev s_Crowd_counts : Stmt := inClass (top 47) 8
abbrev s_paper_of : Stmt := top 48
abbrev s_quotient : Stmt := top 50
abbrev s_length_of : Stmt := top 51
abbrev s_borne : Stmt := top 52
abbrev s_refused_with : Stmt := top 55
abbrev s_least_turns : Stmt := top 56
abbrev s_later_end : Stmt := top 57
abbrev s_earlier_start : Stmt := top 58
abbrev s_fewer : Stmt := top 59
abbrev s_instead_of : Stmt := top 60
abbrev s_window_fault : Stmt := top 65
abbrev s_row_fault : Stmt := top 66
abbrev s_five_of : Stmt := top 67
abbrev s_five_rows : Stmt := top 68
abbrev s_Pieces_init : Stmt := inClass (top 69) 0
abbrev s_Pieces_told : Stmt := inClass (top 69) 1
abbrev s_Pieces_names : Stmt := inClass (top 69) 2
abbrev s_Pieces_has : Stmt := inClass (top 69) 3
abbrev s_Pieces_row : Stmt := inClass (top 69) 4
abbrev s_Pieces_with_row : Stmt := inClass (top 69) 5
abbrev s_Pieces_without : Stmt := inClass (top 69) 6
abbrev s_Pieces_put_at : Stmt := inClass (top 69) 7
abbrev s_Pieces_with_last : Stmt := inClass (top 69) 8
abbrev s_law_cell : Stmt := top 71
abbrev s_law_box : Stmt := top 72
abbrev s_law_take : Stmt := top 73
abbrev s_law_names : Stmt := top 74
abbrev s_law_need : Stmt := top 75
abbrev s_law_short : Stmt := top 76
abbrev s_law_drawn_row : Stmt := top 77
abbrev s_law_promised : Stmt := top 78
abbrev s_law_order_right : Stmt := top 79
abbrev s_law_numbers : Stmt := top 80
abbrev s_law_turns_right : Stmt := top 81
abbrev s_law_borne : Stmt := top 82
abbrev s_law_instead_right : Stmt := top 83
abbrev s_law_right : Stmt := top 84
abbrev s_law : Stmt := top 85
end Fs

set_option Elab.async false
set_option linter.all false
set_option maxRecDepth 100000
set_option maxHeartbeats 0
/-! the head: facts by names -/
namespace Fs
open PySem PySem.Spec PyProof.Rows L2
def d_is_whole : He.DefD := ⟨("is_whole", none), "is_whole", "is_whole", defArgs s_is_whole, defBody s_is_whole, defScope s_is_whole, [], []⟩
def d_is_within : He.DefD := ⟨("is_within", none), "is_within", "is_within", defArgs s_is_within, defBody s_is_within, defScope s_is_within, [], []⟩
def d_is_name : He.DefD := ⟨("is_name", none), "is_name", "is_name", defArgs s_is_name, defBody s_is_name, defScope s_is_name, [], []⟩
def d_is_counts : He.DefD := ⟨("is_counts", none), "is_counts", "is_counts", defArgs s_is_counts, defBody s_is_counts, defScope s_is_counts, [], []⟩
def d_need_counts : He.DefD := ⟨("need_counts", none), "need_counts", "need_counts", defArgs s_need_counts, defBody s_need_counts, defScope s_need_counts, [], []⟩
def d_Run_init : He.DefD := ⟨("Run", some "__init__"), "__init__", "Run.__init__", defArgs s_Run_init, defBody s_Run_init, defScope s_Run_init, [], []⟩
def d_Run_end_try : He.DefD := ⟨("Run", some "end_try"), "end_try", "Run.end_try", defArgs s_Run_end_try, defBody s_Run_end_try, defScope s_Run_end_try, [], []⟩
def d_Run_end_empty : He.DefD := ⟨("Run", some "end_empty"), "end_empty", "Run.end_empty", defArgs s_Run_end_empty, defBody s_Run_end_empty, defScope s_Run_end_empty, [], []⟩
def d_Run_rests : He.DefD := ⟨("Run", some "rests"), "rests", "Run.rests", defArgs s_Run_rests, defBody s_Run_rests, defScope s_Run_rests, [], []⟩
def d_Run_work_on : He.DefD := ⟨("Run", some "work_on"), "work_on", "Run.work_on", defArgs s_Run_work_on, defBody s_Run_work_on, defScope s_Run_work_on, [], []⟩
def d_Run_rows : He.DefD := ⟨("Run", some "rows"), "rows", "Run.rows", defArgs s_Run_rows, defBody s_Run_rows, defScope s_Run_rows, [], []⟩
def d_Run_ends : He.DefD := ⟨("Run", some "ends"), "ends", "Run.ends", defArgs s_Run_ends, defBody s_Run_ends, defScope s_Run_ends, [], []⟩
def d_by_counts : He.DefD := ⟨("by_counts", none), "by_counts", "by_counts", defArgs s_by_counts, defBody s_by_counts, defScope s_by_counts, [], []⟩
def d_run : He.DefD := ⟨("run", none), "run", "run", defArgs s_run, defBody s_run, defScope s_run, [], []⟩
def d_is_stretch : He.DefD := ⟨("is_stretch", none), "is_stretch", "is_stretch", defArgs s_is_stretch, defBody s_is_stretch, defScope s_is_stretch, [], []⟩
def d_need_stretch : He.DefD := ⟨("need_stretch", none), "need_stretch", "need_stretch", defArgs s_need_stretch, defBody s_need_stretch, defScope s_need_stretch, [], []⟩
def d_need_failings : He.DefD := ⟨("need_failings", none), "need_failings", "need_failings", defArgs s_need_failings, defBody s_need_failings, defScope s_need_failings, [], []⟩
def d_room : He.DefD := ⟨("room", none), "room", "room", defArgs s_room, defBody s_room, defScope s_room, [], []⟩
def d_rows_within : He.DefD := ⟨("rows_within", none), "rows_within", "rows_within", defArgs s_rows_within, defBody s_rows_within, defScope s_rows_within, [], []⟩
def d_within : He.DefD := ⟨("within", none), "within", "within", defArgs s_within, defBody s_within, defScope s_within, [], []⟩
def d_lefts : He.DefD := ⟨("lefts", none), "lefts", "lefts", defArgs s_lefts, defBody s_lefts, defScope s_lefts, [], []⟩
def d_greatest_length : He.DefD := ⟨("greatest_length", none), "greatest_length", "greatest_length", defArgs s_greatest_length, defBody s_greatest_length, defScope s_greatest_length, [], []⟩
def d_longest : He.DefD := ⟨("longest", none), "longest", "longest", defArgs s_longest, defBody s_longest, defScope s_longest, [], []⟩
def d_need : He.DefD := ⟨("need", none), "need", "need", defArgs s_need, defBody s_need, defScope s_need, [], []⟩
def d_short : He.DefD := ⟨("short", none), "short", "short", defArgs s_short, defBody s_short, defScope s_short, [], []⟩
def d_stretches : He.DefD := ⟨("stretches", none), "stretches", "stretches", defArgs s_stretches, defBody s_stretches, defScope s_stretches, [], []⟩
def d_table : He.DefD := ⟨("table", none), "table", "table", defArgs s_table, defBody s_table, defScope s_table, [], []⟩
def d_too_short : He.DefD := ⟨("too_short", none), "too_short", "too_short", defArgs s_too_short, defBody s_too_short, defScope s_too_short, [], []⟩
def d_is_kept : He.DefD := ⟨("is_kept", none), "is_kept", "is_kept", defArgs s_is_kept, defBody s_is_kept, defScope s_is_kept, [], []⟩
def d_Paper_init : He.DefD := ⟨("Paper", some "__init__"), "__init__", "Paper.__init__", defArgs s_Paper_init, defBody s_Paper_init, defScope s_Paper_init, [], []⟩
def d_Paper_word : He.DefD := ⟨("Paper", some "word"), "word", "Paper.word", defArgs s_Paper_word, defBody s_Paper_word, defScope s_Paper_word, [], []⟩
def d_Paper_holds : He.DefD := ⟨("Paper", some "holds"), "holds", "Paper.holds", defArgs s_Paper_holds, defBody s_Paper_holds, defScope s_Paper_holds, [], []⟩
def d_Paper_failings : He.DefD := ⟨("Paper", some "failings"), "failings", "Paper.failings", defArgs s_Paper_failings, defBody s_Paper_failings, defScope s_Paper_failings, [], []⟩
def d_Paper_told : He.DefD := ⟨("Paper", some "told"), "told", "Paper.told", defArgs s_Paper_told, defBody s_Paper_told, defScope s_Paper_told, [], []⟩
def d_Kept_word : He.DefD := ⟨("Kept", some "word"), "word", "Kept.word", defArgs s_Kept_word, defBody s_Kept_word, defScope s_Kept_word, [], []⟩
def d_Kept_holds : He.DefD := ⟨("Kept", some "holds"), "holds", "Kept.holds", defArgs s_Kept_holds, defBody s_Kept_holds, defScope s_Kept_holds, [], []⟩
def d_Kept_order : He.DefD := ⟨("Kept", some "order"), "order", "Kept.order", defArgs s_Kept_order, defBody s_Kept_order, defScope s_Kept_order, [], []⟩
def d_Crowd_init : He.DefD := ⟨("Crowd", some "__init__"), "__init__", "Crowd.__init__", defArgs s_Crowd_init, defBody s_Crowd_init, defScope s_Crowd_init, [], []⟩
def d_Crowd_word : He.DefD := ⟨("Crowd", some "word"), "word", "Crowd.word", defArgs s_Crowd_word, defBody s_Crowd_word, defScope s_Crowd_word, [], []⟩
def d_Crowd_told : He.DefD := ⟨("Crowd", some "told"), "told", "Crowd.told", defArgs s_Crowd_told, defBody s_Crowd_told, defScope s_Crowd_told, [], []⟩
def d_Crowd_stretch : He.DefD := ⟨("Crowd", some "stretch"), "stretch", "Crowd.stretch", defArgs s_Crowd_stretch, defBody s_Crowd_stretch, defScope s_Crowd_stretch, [], []⟩
def d_Crowd_names : He.DefD := ⟨("Crowd", some "names"), "names", "Crowd.names", defArgs s_Crowd_names, defBody s_Crowd_names, defScope s_Crowd_names, [], []⟩
def d_Crowd_longest : He.DefD := ⟨("Crowd", some "longest"), "longest", "Crowd.longest", defArgs s_Crowd_longest, defBody s_Crowd_longest, defScope s_Crowd_longest, [], []⟩
def d_Crowd_over : He.DefD := ⟨("Crowd", some "over"), "over", "Crowd.over", defArgs s_Crowd_over, defBody s_Crowd_over, defScope s_Crowd_over, [], []⟩
def d_Crowd_holds : He.DefD := ⟨("Crowd", some "holds"), "holds", "Crowd.holds", defArgs s_Crowd_holds, defBody s_Crowd_holds, defScope s_Crowd_holds, [], []⟩
def d_Crowd_counts : He.DefD := ⟨("Crowd", some "counts"), "counts", "Crowd.counts", defArgs s_Crowd_counts, defBody s_Crowd_counts, defScope s_Crowd_counts, [], []⟩
def d_paper_of : He.DefD := ⟨("paper_of", none), "paper_of", "paper_of", defArgs s_paper_of, defBody s_paper_of, defScope s_paper_of, [], []⟩
def d_quotient : He.DefD := ⟨("quotient", none), "quotient", "quotient", defArgs s_quotient, defBody s_quotient, defScope s_quotient, [], []⟩
def d_length_of : He.DefD := ⟨("length_of", none), "length_of", "length_of", defArgs s_length_of, defBody s_length_of, defScope s_length_of, [], []⟩
def d_borne : He.DefD := ⟨("borne", none), "borne", "borne", defArgs s_borne, defBody s_borne, defScope s_borne, [], []⟩
def d_refused_with : He.DefD := ⟨("refused_with", none), "refused_with", "refused_with", defArgs s_refused_with, defBody s_refused_with, defScope s_refused_with, [], []⟩
def d_least_turns : He.DefD := ⟨("least_turns", none), "least_turns", "least_turns", defArgs s_least_turns, defBody s_least_turns, defScope s_least_turns, [], []⟩
def d_later_end : He.DefD := ⟨("later_end", none), "later_end", "later_end", defArgs s_later_end, defBody s_later_end, defScope s_later_end, [], []⟩
def d_earlier_start : He.DefD := ⟨("earlier_start", none), "earlier_start", "earlier_start", defArgs s_earlier_start, defBody s_earlier_start, defScope s_earlier_start, [.int 0], []⟩
def d_fewer : He.DefD := ⟨("fewer", none), "fewer", "fewer", defArgs s_fewer, defBody s_fewer, defScope s_fewer, [], []⟩
def d_instead_of : He.DefD := ⟨("instead_of", none), "instead_of", "instead_of", defArgs s_instead_of, defBody s_instead_of, defScope s_instead_of, [], []⟩
def d_window_fault : He.DefD := ⟨("window_fault", none), "window_fault", "window_fault", defArgs s_window_fault, defBody s_window_fault, defScope s_window_fault, [], []⟩
def d_row_fault : He.DefD := ⟨("row_fault", none), "row_fault", "row_fault", defArgs s_row_fault, defBody s_row_fault, defScope s_row_fault, [], []⟩
def d_five_of : He.DefD := ⟨("five_of", none), "five_of", "five_of", defArgs s_five_of, defBody s_five_of, defScope s_five_of, [], []⟩
def d_five_rows : He.DefD := ⟨("five_rows", none), "five_rows", "five_rows", defArgs s_five_rows, defBody s_five_rows, defScope s_five_rows, [], []⟩
def d_Pieces_init : He.DefD := ⟨("Pieces", some "__init__"), "__init__", "Pieces.__init__", defArgs s_Pieces_init, defBody s_Pieces_init, defScope s_Pieces_init, [], []⟩
def d_Pieces_told : He.DefD := ⟨("Pieces", some "told"), "told", "Pieces.told", defArgs s_Pieces_told, defBody s_Pieces_told, defScope s_Pieces_told, [], []⟩
def d_Pieces_names : He.DefD := ⟨("Pieces", some "names"), "names", "Pieces.names", defArgs s_Pieces_names, defBody s_Pieces_names, defScope s_Pieces_names, [], []⟩
def d_Pieces_has : He.DefD := ⟨("Pieces", some "has"), "has", "Pieces.has", defArgs s_Pieces_has, defBody s_Pieces_has, defScope s_Pieces_has, [], []⟩
def d_Pieces_row : He.DefD := ⟨("Pieces", some "row"), "row", "Pieces.row", defArgs s_Pieces_row, defBody s_Pieces_row, defScope s_Pieces_row, [], []⟩
def d_Pieces_with_row : He.DefD := ⟨("Pieces", some "with_row"), "with_row", "Pieces.with_row", defArgs s_Pieces_with_row, defBody s_Pieces_with_row, defScope s_Pieces_with_row, [], []⟩
def d_Pieces_without : He.DefD := ⟨("Pieces", some "without"), "without", "Pieces.without", defArgs s_Pieces_without, defBody s_Pieces_without, defScope s_Pieces_without, [], []⟩
def d_Pieces_put_at : He.DefD := ⟨("Pieces", some "put_at"), "put_at", "Pieces.put_at", defArgs s_Pieces_put_at, defBody s_Pieces_put_at, defScope s_Pieces_put_at, [], []⟩
def d_Pieces_with_last : He.DefD := ⟨("Pieces", some "with_last"), "with_last", "Pieces.with_last", defArgs s_Pieces_with_last, defBody s_Pieces_with_last, defScope s_Pieces_with_last, [], []⟩
def d_law_cell : He.DefD := ⟨("_law_cell", none), "_law_cell", "_law_cell", defArgs s_law_cell, defBody s_law_cell, defScope s_law_cell, [], []⟩
def d_law_box : He.DefD := ⟨("_law_box", none), "_law_box", "_law_box", defArgs s_law_box, defBody s_law_box, defScope s_law_box, [], []⟩
def d_law_take : He.DefD := ⟨("_law_take", none), "_law_take", "_law_take", defArgs s_law_take, defBody s_law_take, defScope s_law_take, [], []⟩
def d_law_names : He.DefD := ⟨("_law_names", none), "_law_names", "_law_names", defArgs s_law_names, defBody s_law_names, defScope s_law_names, [], []⟩
def d_law_need : He.DefD := ⟨("_law_need", none), "_law_need", "_law_need", defArgs s_law_need, defBody s_law_need, defScope s_law_need, [], []⟩
def d_law_short : He.DefD := ⟨("_law_short", none), "_law_short", "_law_short", defArgs s_law_short, defBody s_law_short, defScope s_law_short, [], []⟩
def d_law_drawn_row : He.DefD := ⟨("_law_drawn_row", none), "_law_drawn_row", "_law_drawn_row", defArgs s_law_drawn_row, defBody s_law_drawn_row, defScope s_law_drawn_row, [], []⟩
def d_law_promised : He.DefD := ⟨("_law_promised", none), "_law_promised", "_law_promised", defArgs s_law_promised, defBody s_law_promised, defScope s_law_promised, [], []⟩
def d_law_order_right : He.DefD := ⟨("_law_order_right", none), "_law_order_right", "_law_order_right", defArgs s_law_order_right, defBody s_law_order_right, defScope s_law_order_right, [], []⟩
def d_law_numbers : He.DefD := ⟨("_law_numbers", none), "_law_numbers", "_law_numbers", defArgs s_law_numbers, defBody s_law_numbers, defScope s_law_numbers, [], []⟩
def d_law_turns_right : He.DefD := ⟨("_law_turns_right", none), "_law_turns_right", "_law_turns_right", defArgs s_law_turns_right, defBody s_law_turns_right, defScope s_law_turns_right, [], []⟩
def d_law_borne : He.DefD := ⟨("_law_borne", none), "_law_borne", "_law_borne", defArgs s_law_borne, defBody s_law_borne, defScope s_law_borne, [], []⟩
def d_law_instead_right : He.DefD := ⟨("_law_instead_right", none), "_law_instead_right", "_law_instead_right", defArgs s_law_instead_right, defBody s_law_instead_right, defScope s_law_instead_right, [], []⟩
def d_law_right : He.DefD := ⟨("_law_right", none), "_law_right", "_law_right", defArgs s_law_right, defBody s_law_right, defScope s_law_right, [], []⟩
def d_law : He.DefD := ⟨("law", none), "law", "law", defArgs s_law, defBody s_law, defScope s_law, [], []⟩
def d_Kept_init : He.DefD := ⟨("Kept", some "__init__"), "__init__", "Paper.__init__", defArgs s_Paper_init, defBody s_Paper_init, defScope s_Paper_init, [], []⟩
def d_Kept_failings : He.DefD := ⟨("Kept", some "failings"), "failings", "Paper.failings", defArgs s_Paper_failings, defBody s_Paper_failings, defScope s_Paper_failings, [], []⟩
def fn : List He.DefD := [d_is_whole, d_is_within, d_is_name, d_is_counts, d_need_counts, d_Run_init, d_Run_end_try, d_Run_end_empty, d_Run_rests, d_Run_work_on, d_Run_rows, d_Run_ends, d_by_counts, d_run, d_is_stretch, d_need_stretch, d_need_failings, d_room, d_rows_within, d_within, d_lefts, d_greatest_length, d_longest, d_need, d_short, d_stretches, d_table, d_too_short, d_is_kept, d_Paper_init, d_Paper_word, d_Paper_holds, d_Paper_failings, d_Paper_told, d_Kept_word, d_Kept_holds, d_Kept_order, d_Crowd_init, d_Crowd_word, d_Crowd_told, d_Crowd_stretch, d_Crowd_names, d_Crowd_longest, d_Crowd_over, d_Crowd_holds, d_Crowd_counts, d_paper_of, d_quotient, d_length_of, d_borne, d_refused_with, d_least_turns, d_later_end, d_earlier_start, d_fewer, d_instead_of, d_window_fault, d_row_fault, d_five_of, d_five_rows, d_Pieces_init, d_Pieces_told, d_Pieces_names, d_Pieces_has, d_Pieces_row, d_Pieces_with_row, d_Pieces_without, d_Pieces_put_at, d_Pieces_with_last, d_law_cell, d_law_box, d_law_take, d_law_names, d_law_need, d_law_short, d_law_drawn_row, d_law_promised, d_law_order_right, d_law_numbers, d_law_turns_right, d_law_borne, d_law_instead_right, d_law_right, d_law, d_Kept_init, d_Kept_failings]
def fa : List He.Fa := [.glo "is_whole", .glo "is_within", .glo "is_name", .glo "is_counts", .glo "need_counts", .glo "by_counts", .glo "run", .glo "is_stretch", .glo "need_stretch", .glo "need_failings", .glo "room", .glo "rows_within", .glo "within", .glo "lefts", .glo "greatest_length", .glo "longest", .glo "need", .glo "short", .glo "stretches", .glo "table", .glo "too_short", .glo "is_kept", .glo "paper_of", .glo "quotient", .glo "length_of", .glo "borne", .glo "refused_with", .glo "least_turns", .glo "later_end", .glo "earlier_start", .glo "fewer", .glo "instead_of", .glo "window_fault", .glo "row_fault", .glo "five_of", .glo "five_rows", .glo "_law_cell", .glo "_law_box", .glo "_law_take", .glo "_law_names", .glo "_law_need", .glo "_law_short", .glo "_law_drawn_row", .glo "_law_promised", .glo "_law_order_right", .glo "_law_numbers", .glo "_law_turns_right", .glo "_law_borne", .glo "_law_instead_right", .glo "_law_right", .glo "law", .str "FIGURES" "0123456789", .str "LETTERS" "abcdefghijklmnopqrstuvwxyz", .int "LONGEST_NAME" 8, .int "MOST" 200, .int "MOST_TURN_stretches" 199, .int "MOST_FAILINGS" 300, .glo "longest_stretches", .int "MOST_TURN_hindsight" 199, .int "MOST_PIECES" 30, .int "MOST_TURN_pieces" 199, .int "MOST_LENGTH" 12, .glo "Run", .cls "Run", .mkr "Run", .noat "Run" "known", .noat "Run" "wanting", .noat "Run" "tried", .noat "Run" "trodden", .noat "Run" "tries", .noat "Run" "finish", .noat "Run" "fallen", .meth "Run" "end_try", .meth "Run" "end_empty", .meth "Run" "rests", .meth "Run" "work_on", .meth "Run" "rows", .glo "Pieces", .cls "Pieces", .mkr "Pieces", .noat "Pieces" "fives", .meth "Pieces" "told", .meth "Pieces" "names", .meth "Pieces" "has", .meth "Pieces" "row", .meth "Pieces" "with_row", .meth "Pieces" "without", .meth "Pieces" "put_at", .meth "Pieces" "with_last", .glo "Kept", .cls "Kept", .mkr "Kept", .noat "Kept" "held", .noat "Kept" "most", .meth "Kept" "word", .meth "Kept" "holds", .meth "Kept" "order", .meth "Kept" "failings", .glo "Crowd", .cls "Crowd", .mkr "Crowd", .noat "Crowd" "held", .noat "Crowd" "most", .noat "Crowd" "spot", .glo "Paper", .free "all", .free "any", .free "bool", .free "dict", .free "enumerate", .free "int", .free "isinstance", .free "len", .free "list", .free "max", .free "min", .free "range", .free "set", .free "sorted", .free "str", .free "sum", .free "tuple"]
def nm0 : List PySem.Str := ["_wall", "SlackError", "BadPieces", "NoPiece", "NoTurn", "NoStretch", "NoFailings", "NoCounts", "NotRefused", "FIGURES", "LETTERS", "LONGEST_NAME"]
def nm1 : List PySem.Str := ["is_whole", "is_within", "is_name", "MOST", "is_counts", "need_counts", "Run", "by_counts", "run", "MOST_TURN_stretches", "MOST_FAILINGS", "is_stretch"]
def nm2 : List PySem.Str := ["need_stretch", "need_failings", "room", "rows_within", "within", "lefts", "greatest_length", "longest", "longest_stretches", "need", "short", "stretches"]
def nm3 : List PySem.Str := ["table", "too_short", "is_kept", "Paper", "Kept", "Crowd", "paper_of", "quotient", "length_of", "borne", "MOST_TURN_hindsight", "refused_with"]
def nm4 : List PySem.Str := ["least_turns", "later_end", "earlier_start", "fewer", "instead_of", "MOST_PIECES", "MOST_TURN_pieces", "MOST_LENGTH", "window_fault", "row_fault", "five_of", "five_rows"]
def nm5 : List PySem.Str := ["Pieces", "_law_cell", "_law_box", "_law_take", "_law_names", "_law_need", "_law_short", "_law_drawn_row", "_law_promised", "_law_order_right", "_law_numbers", "_law_turns_right"]
def nm6 : List PySem.Str := ["_law_borne", "_law_instead_right", "_law_right"]
def nms : List PySem.Str := nm0 ++ nm1 ++ nm2 ++ nm3 ++ nm4 ++ nm5 ++ nm6
def as0 : List Addr := [3, 31, 30, 51, 50, 70, 69, 89, 88, 108, 107, 127, 126, 146, 145]
def as1 : List Addr := [165, 164, 280, 279, 438, 437, 473, 472, 548, 547, 730, 729, 21, 20, 48]
def as2 : List Addr := [47, 67, 66, 86, 85, 105, 104, 124, 123, 143, 142, 162, 161, 174, 173]
def as3 : List Addr := [181, 180, 186, 185, 193, 192, 200, 199, 214, 213, 221, 220, 228, 227, 235]
def as4 : List Addr := [234, 242, 241, 249, 248, 256, 255, 263, 262, 270, 269, 277, 276, 291, 290]
def as5 : List Addr := [298, 297, 305, 304, 312, 311, 319, 318, 326, 325, 331, 330, 336, 335, 341]
def as6 : List Addr := [340, 346, 345, 353, 352, 360, 359, 367, 366, 372, 371, 379, 378, 386, 385]
def as7 : List Addr := [393, 392, 407, 406, 414, 413, 421, 420, 428, 427, 435, 434, 456, 455, 463]
def as8 : List Addr := [462, 470, 469, 489, 488, 496, 495, 503, 502, 510, 509, 517, 516, 524, 523]
def as9 : List Addr := [531, 530, 538, 537, 545, 544, 557, 556, 564, 563, 571, 570, 576, 575, 583]
def as10 : List Addr := [582, 590, 589, 597, 596, 605, 604, 598, 612, 611, 619, 618, 626, 625, 633]
def as11 : List Addr := [632, 640, 639, 647, 646, 661, 660, 668, 667, 675, 674, 682, 681, 689, 688]
def as12 : List Addr := [696, 695, 701, 700, 706, 705, 713, 712, 720, 719, 727, 726, 741, 740, 748]
def as13 : List Addr := [747, 755, 754, 760, 759, 765, 764, 770, 769, 777, 776, 784, 783, 789, 788]
def as14 : List Addr := [796, 795, 803, 802, 810, 809, 815, 814, 822, 821, 829, 828]
def asA : List Addr := [PySem.cStatics] ++ as0 ++ as1 ++ as2 ++ as3 ++ as4 ++ as5 ++ as6 ++ as7 ++ as8 ++ as9 ++ as10 ++ as11 ++ as12 ++ as13 ++ as14
def tf : List He.Defn := [("by_counts", none), ("later_end", none), ("earlier_start", none)]
/-- Paper.__init__ read off its class -/
def paperB (K : PySem.W.Frag) : Bool := PySem.W.readsIn K (He.ga K "Paper") (.type "type") && (decide (PySem.W.specialIn K (.ref (He.ga K "Paper")) "__getattribute__" = some (some (.builtin "type.__getattribute__"))) && ((match PySem.W.findCls K (.ref (He.ga K "Paper")) (.type "type") "__init__" with
  | some (.val (.ref f)) => decide (f = He.fAd K ("Paper", some "__init__"))
  | _ => false) && PySem.W.keepIn K (.ref (He.fAd K ("Paper", some "__init__")))))
def apartB (K : PySem.W.Frag) : Bool := decide ((He.cT K ("by_counts", none)).2 ≠ (He.cT K ("later_end", none)).2) && (decide ((He.cT K ("by_counts", none)).2 ≠ (He.cT K ("earlier_start", none)).2) && decide ((He.cT K ("later_end", none)).2 ≠ (He.cT K ("earlier_start", none)).2))
def ex : PySem.W.Frag → Bool := fun K => decide (He.ga K "longest_stretches" = He.ga K "longest") && (paperB K && apartB K)
abbrev R : PySem.W.OpenRow := PySem.W.OpenLaw.row PySem.Challenge.rw_failslack_k64_whole_what_would_let_it_in
/-! a Hook as HookX, the addresses written -/
def obsA (g : Addr → Option Obj) : He.AlX := (He.obsT fa fn [] (He.frT g asA), ex (He.frT g asA) && He.tabsB g tf (He.frT g asA))
theorem saysA {w : World} {h : Heap} (e : obsA h.get? = He.valX fn [] w) : He.SaysX fa fn [] tf ex w h (He.frT h.get? asA) := by
  have e1 : He.obsT fa fn [] (He.frT h.get? asA) = He.valT fn [] w := congrArg (fun z : He.AlX => z.1) e
  have e2 : (ex (He.frT h.get? asA) && He.tabsB h.get? tf (He.frT h.get? asA)) = true := congrArg (fun z : He.AlX => z.2) e
  obtain ⟨h1, h2⟩ := He.ba e2
  have key : ∀ p ∈ tf, PySem.W.codeHdIn (He.frT h.get? asA) (He.cT (He.frT h.get? asA) p).1 (He.cT (He.frT h.get? asA) p).2 = true ∧ ∃ o, h.get? (He.cT (He.frT h.get? asA) p).2 = some o ∧ He.emptyTab o = true := fun p hp => by
    obtain ⟨h3, h4⟩ := He.ba (List.all_eq_true.mp h2 p hp)
    refine ⟨h3, ?_⟩
    cases q : h.get? (He.cT (He.frT h.get? asA) p).2 with
    | none => rw [q] at h4; cases h4
    | some o => rw [q] at h4; exact ⟨o, rfl, h4⟩
  exact ⟨e1, h1, fun p hp => (key p hp).1, fun p hp => by
    obtain ⟨_, o, q, z⟩ := key p hp
    exact He.frT_none q z, fun p hp => by
    obtain ⟨_, o, q, z⟩ := key p hp
    rw [q, He.emptyTab_eq z]⟩
def hk : PySem.W.Hook where
  α := He.AlX
  obs := fun s => obsA s.heap.get?
  val := fun w => He.valX fn [] w
  says := fun w h => ∃ K : PySem.W.Frag, K.In h ∧ He.SaysX fa fn [] tf ex w h K
  of := fun _ _ e => ⟨_, He.frT_in, saysA e⟩
  keeps := fun _ _ _ ⟨K, hK, c⟩ k => ⟨K, PySem.W.Frag.In.keeps hK k, ⟨c.t, c.more, c.hd, c.out, fun p hp => k _ _ (c.empty p hp)⟩⟩
def ob (s : PySem.W.SharedT) : He.AlX := obsA (HandSHeadRun.getT s)
theorem ob_eq (s : PySem.W.SharedT) : ob s = hk.obs s.abs := by
  have e : HandSHeadRun.getT s = s.abs.heap.get? := funext (HandSHeadRun.getT_eq s)
  unfold ob
  rw [e] <;> rfl
theorem run (w : World) : HandSHeadRun.RunEq R (PySem.W.view R.prog [85]) hk ob 6000 nms w := by
  intro os
  kernel_rfl
end Fs

set_option Elab.async false
set_option linter.all false
set_option maxRecDepth 100000
set_option maxHeartbeats 4000000
/-! closures: a lambda with parameters and captured names; its cells tracked where its maker's frame is over, or for the time of one call -/
namespace Fs
open PySem PySem.Spec PyProof.Rows L2 LamX NdefX

/-! ### a cell that nobody writes any more -/
def Cel (c : Addr) (o : Obj) : HO := .ext fun h => h.get? c = some o
theorem cel_ok {P : Program} {w : World} {H : Hp} {h : Heap} {c : Addr} {o : Obj} (e : h.get? c = some o) : ObjOk P w H h c (Cel c o) := ⟨e, ⟨o, e⟩, fun _ _ a st => st _ a⟩
theorem cel_at {P : Program} {w : World} {H : Hp} {h : Heap} {c : Addr} {o : Obj} (x : HOk P w H h) (e : H c = some (Cel c o)) : h.get? c = some o := (x c _ e).1
def Holds (o : Obj) (v : V) : Prop := ∃ u, o.data = .cell (some u) ∧ RelV v u
def dropC (H : Hp) (cs : List Addr) : Hp := fun b => if b ∈ cs then none else H b
/-- at cs as G, elsewhere as H -/
def putC (G H : Hp) (cs : List Addr) : Hp := fun b => if b ∈ cs then G b else H b
theorem dropC_in {H : Hp} {cs : List Addr} {b : Addr} (h : b ∈ cs) : dropC H cs b = none := if_pos h
theorem dropC_out {H : Hp} {cs : List Addr} {b : Addr} (h : b ∉ cs) : dropC H cs b = H b := if_neg h
theorem putC_in {G H : Hp} {cs : List Addr} {b : Addr} (h : b ∈ cs) : putC G H cs b = G b := if_pos h
theorem putC_out {G H : Hp} {cs : List Addr} {b : Addr} (h : b ∉ cs) : putC G H cs b = H b := if_neg h
def IsC (H : Hp) (cs : List Addr) : Prop := ∀ c ∈ cs, ∃ o, H c = some (Cel c o)
theorem IsC.out {H : Hp} {cs : List Addr} (x : IsC H cs) {b : Addr} {u : HO} (e : H b = some u) (n : ∀ φ, u ≠ .ext φ) : b ∉ cs := fun hb => by
  obtain ⟨o, q⟩ := x b hb
  rw [e] at q
  exact n _ (Option.some.inj q)
theorem IsC.none {H : Hp} {cs : List Addr} (x : IsC H cs) {b : Addr} (e : H b = none) : b ∉ cs := fun hb => by
  obtain ⟨o, q⟩ := x b hb
  rw [e] at q
  cases q
section
variable {P : Program} {w : World} {H H' G : Hp} {h h' : Heap} {cs fs : List Addr}
theorem hok_drop (x : HOk P w H h) (hc : IsC H cs) : HOk P w (dropC H cs) h := fun b u e => by
  by_cases hb : b ∈ cs
  · rw [dropC_in hb] at e; cases e
  · rw [dropC_out hb] at e
    exact (x b u e).stay (fun _ _ _ q => q) (fun d q => (dropC_out (hc.out q fun _ z => nomatch z)).trans q) fun d xs q => (dropC_out (hc.out q fun _ z => nomatch z)).trans q
/-- behind a run from the heap without the cells: they stand as they stood -/
theorem un_back (x : HOk P w H h) (hc : IsC H cs) (hf : ∀ c ∈ cs, c ∉ fs) (u : Un fs [] (dropC H cs) H' h h') (x' : HOk P w H' h') :
    Un fs [] H (putC H H' cs) h h' ∧ HOk P w (putC H H' cs) h' ∧ ∀ c ∈ cs, H' c = none := by
  have ne : ∀ b : Addr, b ∉ ([] : List Addr) := fun _ z => nomatch z
  have off : ∀ c ∈ cs, H' c = none := fun c hm => by
    obtain ⟨o, q⟩ := hc c hm
    exact u.free c o (cel_at x q) (dropC_in hm) (ne c)
  refine ⟨⟨fun b o e n hb _ => ?_, fun b o e n hb _ => ?_, fun b o e n _ => ?_, fun b o e _ => u.there b o e (ne b), fun b xs e => ?_, fun b o q e => ?_, fun b ps e => ?_⟩, fun b q e => ?_, off⟩
  · exact u.keep b o e ((dropC_out (hc.none n)).trans n) hb (ne b)
  · exact u.slot b o e ((dropC_out (hc.none n)).trans n) hb (ne b)
  · rw [putC_out (hc.none n)]; exact u.free b o e ((dropC_out (hc.none n)).trans n) (ne b)
  · have n := hc.out e fun _ z => nomatch z
    rw [putC_out n]; exact u.tups b xs ((dropC_out n).trans e)
  · have n := hc.out e fun _ z => nomatch z
    rw [putC_out n]; exact u.frzs b o q ((dropC_out n).trans e)
  · have n := hc.out e fun _ z => nomatch z
    rw [putC_out n]; exact u.tbls b ps ((dropC_out n).trans e)
  · by_cases hb : b ∈ cs
    · rw [putC_in hb] at e
      obtain ⟨o, q⟩ := hc b hb
      rw [q] at e
      cases e
      exact cel_ok (u.keep b o (cel_at x q) (dropC_in hb) (hf b hb) (ne b))
    · rw [putC_out hb] at e
      exact (x' b q e).stay (fun _ _ _ z => z) (fun d z => (putC_out fun hd => by rw [off d hd] at z; cases z).trans z) fun d xs z => (putC_out fun hd => by rw [off d hd] at z; cases z).trans z
/-- the cells of a frame that runs, tracked for one call -/
theorem hok_put (x : HOk P w H h) (hn : ∀ c ∈ cs, H c = none) (hG : ∀ c ∈ cs, ∃ o, G c = some (Cel c o) ∧ h.get? c = some o) : HOk P w (putC G H cs) h := fun b u e => by
  by_cases hb : b ∈ cs
  · rw [putC_in hb] at e
    obtain ⟨o, q, g⟩ := hG b hb
    rw [q] at e
    cases e
    exact cel_ok g
  · rw [putC_out hb] at e
    have nn : ∀ {d : Addr} {q : HO}, H d = some q → d ∉ cs := fun {d q} z hd => by rw [hn d hd] at z; cases z
    exact (x b u e).stay (fun _ _ _ q => q) (fun d q => (putC_out (nn q)).trans q) fun d xs q => (putC_out (nn q)).trans q
theorem un_put (hn : ∀ c ∈ cs, H c = none) (hG : ∀ c ∈ cs, ∃ o, G c = some (Cel c o) ∧ h.get? c = some o) (u : Un fs [] (putC G H cs) H' h h') (x' : HOk P w H' h') (kept : ∀ c ∈ cs, H' c = G c) :
    Un fs [] H (dropC H' cs) h h' ∧ HOk P w (dropC H' cs) h' := by
  have ne : ∀ b : Addr, b ∉ ([] : List Addr) := fun _ z => nomatch z
  have nn : ∀ {d : Addr} {q : HO}, H d = some q → d ∉ cs := fun {d q} z hd => by rw [hn d hd] at z; cases z
  have there : ∀ b ∈ cs, ∀ o, h.get? b = some o → h'.get? b = some o := fun b hb o e => by
    obtain ⟨o', q, g⟩ := hG b hb
    rw [e] at g
    cases g
    exact cel_at x' ((kept b hb).trans q)
  have hc : IsC H' cs := fun c hm => by
    obtain ⟨o, q, _⟩ := hG c hm
    exact ⟨o, (kept c hm).trans q⟩
  refine ⟨⟨fun b o e n hb _ => ?_, fun b o e n hb _ => ?_, fun b o e n _ => ?_, fun b o e _ => u.there b o e (ne b), fun b xs e => ?_, fun b o q e => ?_, fun b ps e => ?_⟩, hok_drop x' hc⟩
  · by_cases hm : b ∈ cs
    · exact there b hm o e
    · exact u.keep b o e ((putC_out hm).trans n) hb (ne b)
  · by_cases hm : b ∈ cs
    · exact ⟨o.slots, there b hm o e⟩
    · exact u.slot b o e ((putC_out hm).trans n) hb (ne b)
  · by_cases hm : b ∈ cs
    · exact dropC_in hm
    · rw [dropC_out hm]; exact u.free b o e ((putC_out hm).trans n) (ne b)
  · rw [dropC_out (nn e)]; exact u.tups b xs ((putC_out (nn e)).trans e)
  · rw [dropC_out (nn e)]; exact u.frzs b o q ((putC_out (nn e)).trans e)
  · rw [dropC_out (nn e)]; exact u.tbls b ps ((putC_out (nn e)).trans e)
end

/-! ### the function that a lambda makes; its words as Nested's NF (body not used) -/
def FnL (f : Addr) (F : NF) (b : Expr) : HO := .ext fun h => ∃ (od : Option Addr) (sl : Array (Option Value)) (pm ctv : Value), h.get? f = some (⟨.type "function", od, .func (PySem.W.kla_fn F.name F.qual F.params b F.scope F.cl pm (.ref F.c) ctv), sl⟩ : Obj)
theorem fnL_at {P : Program} {w : World} {H : Hp} {h : Heap} {f : Addr} {F : NF} {b : Expr} (x : HOk P w H h) (e : H f = some (FnL f F b)) :
    ∃ (od : Option Addr) (sl : Array (Option Value)) (pm ctv : Value), h.get? f = some (⟨.type "function", od, .func (PySem.W.kla_fn F.name F.qual F.params b F.scope F.cl pm (.ref F.c) ctv), sl⟩ : Obj) := (x f _ e).1
/-- what a lambda's function is worth: the captured values ws, the arguments vs -/
structure LOk (P : Program) (w : World) (K : PySem.W.Frag) (mg : Str → Option Value) (base : Heap) (k : Nat) (F : NF) (b : Expr) (ps fr : List Str) (sp : List V → Sp) : Prop where
  len : ∀ ws vs H Q E, sp ws vs H Q E → vs.length = ps.length
  run : ∀ (f : Addr) (A : Around) (outer : List Env) (s : Shared) (H : Hp) (us : List Value) (vs ws : List V) (Q : VK) (E : XK), Room k A → Env0 P w K mg base A outer s H → H f = some (FnL f F b) → H F.c = some (CodeO F.c F.qual) →
    CellsAt F.cl fr (ws.map some) s.heap H → Vals vs us → sp ws vs H Q E → codeAny (model P w) A (.call (.ref f) ⟨us, []⟩) (CR CX0 outer P w H s Q E) s
section
variable {P : Program} {w : World} {K : PySem.W.Frag} {mg : Str → Option Value} {base : Heap} {N ps fr : List Str} {F : NF} {b : Expr} {k : Nat} {sp : List V → Sp}
theorem lok_of (S : NScope N ps fr F.scope) (hb : ∀ (pm ctv : Value) (us : List Value), us.length = ps.length → bindArgs (PySem.W.kla_fn F.name F.qual F.params b F.scope F.cl pm (.ref F.c) ctv) ⟨us, []⟩ = pure (ps.zip us)) (len : ∀ ws vs H Q E, sp ws vs H Q E → vs.length = ps.length)
    (body : ∀ (f : Addr) (A : Around) (outer : List Env) (s : Shared) (H : Hp) (vs ws : List V) (Q : VK) (E : XK), Room k (A.deeper (envF F f s.heap.objs.size)) → ws.length = fr.length → sp ws vs H Q E →
      ∃ t, PE (ncx CX0 P w K mg base N F f A outer s H E) b t ∧ t (startF N vs (ws.map some)) H Q) : LOk P w K mg base (k + 1) F b ps fr sp := by
  refine ⟨len, fun f A outer s H us vs ws Q E hr e0 hf hc C r hsp => ?_⟩
  have hl := len _ _ _ _ _ hsp
  obtain ⟨od, sl, pm, ctv, ho⟩ := fnL_at e0.hok hf
  have lim : s.heap.NoLimit := e0.mod.nolimit.keeps fun b o e => (e0.bs b o e).1
  refine PySem.W.kla_callFunE hr.depth ho rfl S.co S.gen rfl (codeO_at e0.hok hc) ?_
  rw [hb pm ctv us (r.length ▸ hl)]
  refine wpAny_pure (wpAny_newFunctionEnv S.nocell (fun ⟨n, _⟩ hy => S.par n (List.of_mem_zip hy).1) (fun h1 hns hsb => ⟨lim.fresh _ hsb, ?_⟩) S.kind)
  have hwl : ws.length = fr.length := by have := C.len; rw [List.length_map] at this; exact this
  obtain ⟨t, ht, hq⟩ := body f A outer s H vs ws Q E (hr.deeper _) hwl hsp
  have I := inv_startN (CX := CX0) (E := E) (f := f) (N := N) (tk := s.toks + (ps.zip us).length) S hr.hd e0 hl r C hns fun b o e => hsb.extBut b o (Nat.ne_of_lt (Heap.lt_size e)) (Heap.get?_push_of_some _ e)
  refine PySem.W.kla_codeExpr (wpAny_mono (ht.run [] _ _ H Q I hq) (fun v s' z => ?_) fun e s' z => z)
  obtain ⟨x, H', J, rv, q⟩ := z
  exact ⟨x, H', J.os, J.bare, J.base, J.hok, rv, q⟩
end

/-- a tracked closure: its function, its code, its cells with what they hold -/
structure Clo (H : Hp) (f : Addr) (F : NF) (b : Expr) (fr : List Str) (ws : List V) : Prop where
  fn : H f = some (FnL f F b)
  co : H F.c = some (CodeO F.c F.qual)
  len : ws.length = fr.length
  all : ∀ y c, F.cl.lookup y = some c → ∃ o, H c = some (Cel c o) ∧ ∃ v, o.data = .cell v
  inj : ∀ x y c, F.cl.lookup x = some c → F.cl.lookup y = some c → x = y
  has : ∀ (i : Nat) (y : Str), fr[i]? = some y → ∃ c o v, F.cl.lookup y = some c ∧ H c = some (Cel c o) ∧ ws[i]? = some v ∧ Holds o v
theorem Clo.ext {H H' : Hp} {f : Addr} {F : NF} {b : Expr} {fr : List Str} {ws : List V} (x : Clo H f F b fr ws) (e : ExtN H H') : Clo H' f F b fr ws :=
  ⟨e _ _ x.fn (fun _ z => nomatch z), e _ _ x.co (fun _ z => nomatch z), x.len, fun y c h => by
    obtain ⟨o, q, r⟩ := x.all y c h
    exact ⟨o, e _ _ q (fun _ z => nomatch z), r⟩, x.inj, fun i y h => by
    obtain ⟨c, o, v, h1, h2, h3, h4⟩ := x.has i y h
    exact ⟨c, o, v, h1, e _ _ h2 (fun _ z => nomatch z), h3, h4⟩⟩
/-- the cells' addresses -/
def cellsOf (F : NF) : List Addr := (F.cl.map (·.1)).filterMap fun y => F.cl.lookup y
theorem mem_cellsOf {F : NF} {c : Addr} : c ∈ cellsOf F ↔ ∃ y, F.cl.lookup y = some c := by
  unfold cellsOf
  rw [List.mem_filterMap]
  constructor
  · rintro ⟨y, _, h⟩; exact ⟨y, h⟩
  · rintro ⟨y, h⟩
    exact ⟨y, List.mem_map.mpr ⟨(y, c), PySem.mem_of_lookup h, rfl⟩, h⟩
theorem Clo.isC {H : Hp} {f : Addr} {F : NF} {b : Expr} {fr : List Str} {ws : List V} (x : Clo H f F b fr ws) : IsC H (cellsOf F) := fun c hc => by
  obtain ⟨y, h⟩ := mem_cellsOf.mp hc
  obtain ⟨o, q, _⟩ := x.all y c h
  exact ⟨o, q⟩
/-- a lambda's words but for its cells and its code object -/
structure LKind where
  qual : Str
  params : Arguments
  scope : Scope
def LKind.F (L : LKind) (cl : List (Str × Addr)) (c : Addr) : NF := ⟨"<lambda>", L.qual, L.params, [], L.scope, cl, c⟩
/-! ### x(..), x a name that holds a tracked closure -/
def tLamv (L : LKind) (b : Expr) (fr : List Str) (sp : List V → Sp) (i : Nat) (t : TA) : TE := fun σ H Q => ∃ f, σ[i]? = some (some (.ref f)) ∧ (∃ F, H f = some (FnL f F b)) ∧ t σ H fun vs H1 => ∃ cl c ws, Clo H1 f (L.F cl c) b fr ws ∧
  sp ws vs (dropC H1 (cellsOf (L.F cl c))) (fun v H' => (∀ a ∈ cellsOf (L.F cl c), H' a = none) → Q v (putC H1 H' (cellsOf (L.F cl c)))) E0
section
variable {X : Cx} {k j i : Nat} {x : Str} {e : Expr} {es : List Expr} {p pos : Pos} {t : TA} {L : LKind} {b : Expr} {fr ps : List Str} {sp : List V → Sp}
theorem fnL_fn {pins : List (Addr × Obj)} {σ : L2.St} {H : Hp} {s : Shared} {f : Addr} {F : NF} (I : Inv X pins σ H s) (e : H f = some (FnL f F b)) : PySem.W.FnAt f s.heap := by
  obtain ⟨od, sl, pm, ctv, ho⟩ := fnL_at I.hok e
  exact ⟨_, od, _, sl, ho⟩
theorem run_lam {pins : List (Addr × Obj)} {σ : L2.St} {H : Hp} {s : Shared} {f c : Addr} {cl : List (Str × Addr)} {us : List Value} {vs ws : List V} {Q : VK} (O : LOk X.prog X.w X.K X.mg X.base k (L.F cl c) b ps fr sp) (hr : Room j X.A) (hk : k ≤ j) (I : Inv X pins σ H s)
    (C : Clo H f (L.F cl c) b fr ws) (r : Vals vs us) (q : sp ws vs (dropC H (cellsOf (L.F cl c))) (fun v H' => (∀ a ∈ cellsOf (L.F cl c), H' a = none) → Q v (putC H H' (cellsOf (L.F cl c)))) E0) :
    wpAny (model X.prog X.w) X.A (call (.ref f) us) (EP X pins σ Q) X.xe s := by
  have hc := C.isC
  have off : ∀ {b : Addr}, H b = none → dropC H (cellsOf (L.F cl c)) b = none := fun {b} n => (dropC_out (hc.none n)).trans n
  have e0 : Env0 X.prog X.w X.K X.mg X.base X.A X.stack s (dropC H (cellsOf (L.F cl c))) :=
    ⟨I.ok.frames, I.ok.mod, fun b o e => ⟨(I.bs b o e).1, off (I.bs b o e).2⟩, Nat.le_trans I.ok.bsz I.sz, I.stack, fun b hb => off (I.stkFree b hb), hok_drop I.hok hc, I.bare⟩
  have CA : CellsAt (L.F cl c).cl fr (ws.map some) s.heap (dropC H (cellsOf (L.F cl c))) := by
    refine ⟨by rw [List.length_map]; exact C.len, fun y a h => ?_, C.inj, fun i y h => ?_⟩
    · obtain ⟨o, h1, v, h2⟩ := C.all y a h
      exact ⟨dropC_in (mem_cellsOf.mpr ⟨y, h⟩), v, o, cel_at I.hok h1, h2⟩
    · obtain ⟨a, o, v, h1, h2, h3, u, h4, h5⟩ := C.has i y h
      refine ⟨a, h1, fun v' e => ?_⟩
      rw [List.getElem?_map, h3] at e
      cases e
      exact ⟨u, h5, o, cel_at I.hok h2, h4⟩
  have hf : dropC H (cellsOf (L.F cl c)) f = some (FnL f (L.F cl c) b) ∧ dropC H (cellsOf (L.F cl c)) c = some (CodeO c L.qual) := by
    have n1 : f ∉ cellsOf (L.F cl c) := fun hm => by
      obtain ⟨y, h⟩ := mem_cellsOf.mp hm
      obtain ⟨o, h1, v, h2⟩ := C.all y f h
      obtain ⟨od, sl, pm, ctv, ho⟩ := fnL_at I.hok C.fn
      have g := cel_at I.hok h1
      rw [ho] at g
      cases g
      cases h2
    have n2 : c ∉ cellsOf (L.F cl c) := fun hm => by
      obtain ⟨y, h⟩ := mem_cellsOf.mp hm
      obtain ⟨o, h1, v, h2⟩ := C.all y c h
      have cc : H c = some (CodeO c L.qual) := C.co
      obtain ⟨c2, oc, vs, t, e2, g1, g2, g3⟩ := codeO_at I.hok cc
      cases e2
      have g := cel_at I.hok h1
      rw [g1] at g
      cases g
      rw [h2] at g2
      cases g2
    exact ⟨(dropC_out n1).trans C.fn, (dropC_out n2).trans C.co⟩
  refine wpAny_call (codeAny_mono (O.run f X.A X.stack s _ us vs ws _ E0 (hr.mono hk) e0 hf.1 hf.2 CA r q) fun r s' hq => ?_)
  cases r with
  | error e => exact False.elim hq
  | ok fl =>
    cases fl with
    | ret u =>
      obtain ⟨v, H', os, bare, un, hok, rv, q2⟩ := hq
      obtain ⟨u2, h2, off2⟩ := un_back I.hok hc (fun a ha => fun z => by
        obtain ⟨o, g⟩ := hc a ha
        rw [I.stkFree a z] at g
        cases g) un hok
      obtain ⟨hh, g, d, tk, os'⟩ := s'
      obtain rfl : os' = s.os := os
      exact ⟨v, _, I.call (h' := hh) (g' := g) (d' := d) (t' := tk) (ch := []) u2 h2 bare (fun b z => nomatch z), rv, q2 off2⟩
    | next => exact False.elim hq
    | brk => exact False.elim hq
    | cont => exact False.elim hq
theorem pe_lamv (O : ∀ cl c, LOk X.prog X.w X.K X.mg X.base k (L.F cl c) b ps fr sp) (hr : Room j X.A) (hk : k ≤ j) (hN : X.N[i]? = some x) (hv : Vis X.env.scope x) (ha : PA X (e :: es) t)
    (hd : (x == ("__debug__" : Str)) = false := by decide) (hcd : (x == ("__classdict__" : Str)) = false := by decide)
    (he : starEach (e :: es) X.env = (false, eval e X.env) :: starEach es X.env := by rfl) (hpl : (backTo pos (starEach es X.env)).any (·.1) = false := by rfl) :
    PE X (.Call (.Name x p) (e :: es) [] pos) (tLamv L b fr sp i t) := by
  refine ⟨fun pins s σ H Q I h => ?_⟩
  obtain ⟨f, hs, ⟨F, hf⟩, ht⟩ := h
  refine wpAny_Call_Name_kw (thn ((pe_var (pos := p) hN hv hd hcd).run pins s σ H (fun v H1 => v = .ref f ∧ H1 = H) I ⟨.ref f, hs, rfl, rfl⟩) fun u s1 ⟨v, H1, I1, r1, q1⟩ => ?_)
  obtain ⟨ev, eH⟩ := q1
  subst ev
  rw [eH] at I1
  obtain rfl : u = Value.ref f := r1
  refine PySem.W.callWith_F (first := []) (fnL_fn I1 hf) (thn (ha.run pos pins s1 σ H _ I1 ht) fun us s2 ⟨vs, H2, I2, r, cl, c, ws, C, q⟩ => ⟨fnL_fn I2 C.fn, ?_⟩) he hpl
  show wpAny _ _ (call (.ref f) us) _ _ _
  exact run_lam (O cl c) hr hk I2 C r q
end

/-! ### the lambda as an expression: its function, tracked -/
/-- the function's object is new; its code object is new, or found in the table -/
def tLam (T : List (Addr × Str)) (L : LKind) (b : Expr) (cl : List (Str × Addr)) : TE := fun σ H Q => Tabs T H ∧ ∀ (f c : Addr) (H1 : Hp), ExtN H H1 → (∀ a, H1 a = none → H a = none) → Tabs T H1 → H f = none → H1 f = some (FnL f (L.F cl c) b) → H1 c = some (CodeO c L.qual) → Q (.ref f) H1
section
variable {X : Cx} {pins : List (Addr × Obj)} {σ : L2.St} {H : Hp} {s : Shared}
theorem inv_fnL {F : NF} {b : Expr} {t' : Nat} {pm ctv : Value} (I : Inv X pins σ H s) :
    Inv X pins σ (upd H s.heap.objs.size (FnL s.heap.objs.size F b)) { s with heap := s.heap.push { cls := .type "function", data := .func (PySem.W.kla_fn F.name F.qual F.params b F.scope F.cl pm (.ref F.c) ctv) }, toks := t' } := by
  have e : (s.heap.push ({ cls := .type "function", data := .func (PySem.W.kla_fn F.name F.qual F.params b F.scope F.cl pm (.ref F.c) ctv) } : Obj)).get? s.heap.objs.size = some _ := Heap.get?_push_size _ rfl
  exact I.laid (a := s.heap.objs.size) (fun b u e => Heap.get?_push_of_some _ e) (Nat.le_refl _) ⟨⟨_, _, pm, ctv, e⟩, ⟨_, e⟩, fun h1 h2 ⟨od, sl, p, t, z⟩ st => ⟨od, sl, p, t, st _ z⟩⟩
theorem pe_lam {T : List (Addr × Str)} {L : LKind} {c P : Addr} {params : Arguments} {body : Expr} {scope : Scope} {pos : Pos} (TB : TabB X.base X.mg c P) (hcode : X.env.code = .ref c) (hL : L = ⟨X.env.qual ++ "<lambda>", params, scope⟩)
    (hm : (P, X.env.qual ++ "<lambda>") ∈ T) (hu : ∀ p ∈ T, p.1 = P → p.2 = X.env.qual ++ "<lambda>") (hdef : defaultsOf params X.env = ([], []))
    (hfree : ∀ y ∈ scope.names, y.2 = .free → X.env.scope.names.lookup y.1 = some .cell ∨ X.env.scope.names.lookup y.1 = some .free) :
    PE X (.Lambda params body scope pos) (tLam T L body (cloFrom X.env.cells scope.names [])) := by
  subst hL
  refine ⟨fun pins s σ H Q I ⟨hT, h⟩ => ?_⟩
  obtain ⟨ps, hP, ht, ha⟩ := hT _ hm
  have hfr : ∀ y ∈ scope.names, y.2 = .free → ∃ c, X.env.cells.lookup y.1 = some c := fun y hy e => (hfree y hy e).elim (fun z => I.ok.has _ (.inl z)) fun z => I.ok.has _ (.inr z)
  have bP : s.heap.BuiltinsAt X.mg P := TB.bm.keeps I.bk
  have hP' : s.heap.get? P = some { cls := .none, data := .fields ps } := I.hok P _ hP
  refine PySem.W.kla_eval hdef ?_
  have fin : ∀ (c' : Addr) (H1 : Hp) (s1 : Shared) (pm ctv : Value) (tk : Nat), Inv X pins σ H1 s1 → ExtN H H1 → (∀ a, H1 a = none → H a = none) → Tabs T H1 → H1 c' = some (CodeO c' (X.env.qual ++ "<lambda>")) → s.heap.objs.size ≤ s1.heap.objs.size →
      EP X pins σ Q (.ref s1.heap.objs.size) { s1 with heap := s1.heap.push (PySem.W.kla_obj "<lambda>" (X.env.qual ++ "<lambda>") params body scope (cloFrom X.env.cells scope.names []) pm c' ctv), toks := tk } := fun c' H1 s1 pm ctv tk I1 e1 e2 e3 e4 e5 => by
    have nF : H1 s1.heap.objs.size = none := I1.hok.fresh (Nat.le_refl _)
    have ex : ∀ b o, H1 b = some o → upd H1 s1.heap.objs.size (FnL s1.heap.objs.size ((LKind.mk (X.env.qual ++ "<lambda>") params scope).F (cloFrom X.env.cells scope.names []) c') body) b = some o := fun b o e => (upd_ne (ne_of_none e nF)).trans e
    exact ⟨.ref _, _, inv_fnL (F := (LKind.mk (X.env.qual ++ "<lambda>") params scope).F (cloFrom X.env.cells scope.names []) c') (b := body) (t' := tk) (pm := pm) (ctv := ctv) I1, rfl,
      h _ c' _ (e1.trans (ExtN.of ex)) (fun a z => e2 a (upd_none z)) (e3.ext ex) (I.hok.fresh e5) upd_same (ex _ _ e4)⟩
  cases hc : codeAmong pos ps.toList with
  | some cv =>
    obtain ⟨c', e, hco⟩ := ha pos cv hc
    subst e
    refine PySem.W.kla_makeFunctionHit (mg := X.mg) (c := c) (P := P) (ps := ps) (closure_ok hfr) I.ok.glob (I.mod.glob.keeps I.bk) hcode (TB.code.keeps I.bk) hP' ht hc bP fun ctv h' tk hx hsz => ?_
    exact fin c' H { s with heap := h', toks := tk } _ ctv tk (I.kept hx) (ExtN.refl H) (fun _ z => z) hT hco hsz
  | none =>
    refine PySem.W.kla_makeFunction (mg := X.mg) (c := c) (P := P) (ps := ps) (closure_ok hfr) I.ok.glob (I.mod.glob.keeps I.bk) hcode (TB.code.keeps I.bk) hP' ht hc TB.gP bP fun c' ctv h' tk hx hge hlt hrec htb => ?_
    obtain ⟨c2, oc, vs, t, e2, hoc, hd, hv⟩ := hrec
    cases e2
    have nC : H c' = none := I.hok.fresh hge
    have I1 := inv_table (t' := tk) (more := #[rawInt pos.line, rawInt pos.col, .ref c']) (h' := h') I hP (fun b o hb e => hx b o hb e) htb hge ⟨oc, vs, t, hoc, hd, hv⟩
    have hE : ExtN H (upd (upd H P (.tbl (ps ++ #[rawInt pos.line, rawInt pos.col, .ref c']))) c' (CodeO c' (X.env.qual ++ "<lambda>"))) := fun b o e n => by
      rw [upd_ne (ne_of_none e nC), upd_ne (fun z => n ps (Option.some.inj (e.symm.trans (by rw [z]; exact hP))))]
      exact e
    refine fin c' _ { s with heap := h', toks := tk } _ ctv tk I1 hE (fun a z => upd_none (upd_none z)) (fun p hp => ?_) upd_same (Nat.le_trans hge (Nat.le_of_lt hlt))
    have eL : (ps ++ #[rawInt pos.line, rawInt pos.col, .ref c']).toList = ps.toList ++ [rawInt pos.line, rawInt pos.col, .ref c'] := by simp
    by_cases hb : p.1 = P
    · rw [hu p hp hb, hb]
      refine ⟨_, (upd_ne (ne_of_none hP nC)).trans upd_same, eL ▸ PySem.TriplesOk_snoc _ _ _ _ ht, fun p' cv hcv => ?_⟩
      rw [eL] at hcv
      rcases among_app _ ht hcv with z | z
      · obtain ⟨c0, e1, e2⟩ := ha p' cv z
        exact ⟨c0, e1, hE _ _ e2 codeO_ne⟩
      · exact ⟨c', z, upd_same⟩
    · obtain ⟨ps', a1, a2, a3⟩ := hT p hp
      refine ⟨ps', (upd_ne (ne_of_none a1 nC)).trans ((upd_ne hb).trans a1), a2, fun p' cv hcv => ?_⟩
      obtain ⟨c0, e1, e2⟩ := a3 p' cv hcv
      exact ⟨c0, e1, hE _ _ e2 codeO_ne⟩
end

/-! ### a def that hands back a lambda over its own parameters: the cells are tracked from then on -/
def spMaker (T : List (Addr × Str)) (L : LKind) (b : Expr) (ps : List Str) : Sp := fun vs H Q _ => vs.length = ps.length ∧ Tabs T H ∧ ∀ (f c : Addr) (cl : List (Str × Addr)) (H' : Hp), ExtN H H' → Tabs T H' → Clo H' f (L.F cl c) b ps vs → Q (.ref f) H'
def gCel (h : Heap) : Hp := fun b => (h.get? b).map (Cel b)
theorem gCel_at {h : Heap} {b : Addr} {o : Obj} (e : h.get? b = some o) : gCel h b = some (Cel b o) := by unfold gCel; rw [e]; rfl
theorem fn_maker {P : Program} {w : World} {K : PySem.W.Frag} {mg : Str → Option Value} {base : Heap} {k : Nat} {f cc Pt : Addr} {name qual : Str} {params lp : Arguments} {bx : Expr} {scope lsc : Scope} {lpos rpos : Pos} {dV kV doc pm ct oc : Value} {an od : Option Addr}
    {osl : Array (Option Value)} {N ps : List Str} {T : List (Addr × Str)} {L : LKind}
    (lk : K.lookup f = some ⟨oc, od, .func (PySem.W.fnOf name qual params [.Return (some (.Lambda lp bx lsc lpos)) rpos] scope dV kV doc pm an (.ref cc) ct), osl⟩) (hcd : PySem.W.codeIn K (.ref cc) qual = true) (S : FnScope N ps scope) (TB : TabB base mg cc Pt)
    (hL : ∀ n f, L = ⟨(envOfC qual scope n f (.ref cc)).qual ++ "<lambda>", lp, lsc⟩) (hm : (Pt, L.qual) ∈ T) (hu : ∀ p ∈ T, p.1 = Pt → p.2 = L.qual) (hdef : ∀ env, defaultsOf lp env = ([], []))
    (hfree : ∀ y ∈ lsc.names, y.2 = .free → scope.names.lookup y.1 = some .cell) (hps : ∀ y ∈ ps, scope.names.lookup y = some .cell ∧ (y, NameKind.free) ∈ lsc.names) :
    FnOk P w K mg base CX0 (k + 1) f (PySem.W.fnOf name qual params [.Return (some (.Lambda lp bx lsc lpos)) rpos] scope dV kV doc pm an (.ref cc) ct) ps (spMaker T L bx ps) := by
  refine ⟨fun vs H Q E h => h.1, fun A outer s H args us vs Q E hr e0 hb r hsp => ?_⟩
  obtain ⟨hl, hT, hq⟩ := hsp
  have KX : K.In s.heap := e0.mod.kin.keeps fun b o e => (e0.bs b o e).1
  have lim : s.heap.NoLimit := e0.mod.nolimit.keeps fun b o e => (e0.bs b o e).1
  have hkind : ∀ y ∈ ps.zip us, scope.names.lookup y.1 = some .local ∨ (scope.names.lookup y.1 = some .cell ∧ ((cellsFrom (s.heap.objs.size + 1) scope.names []).lookup y.1).isSome = true) := fun ⟨n, v⟩ hy =>
    .inr ⟨(hps n (List.of_mem_zip hy).1).1, PySem.W.cellsFrom_some _ _ _ (.inl (hps n (List.of_mem_zip hy).1).1)⟩
  refine codeAny_call_function hr.depth (KX _ _ lk) rfl S.co S.gen rfl (PySem.W.codeRec_of KX hcd) (hb _ _ _ _ ?_)
  refine wpAny_newFunctionEnv_cells S.kind hkind fun env he s1 x => ?_
  subst he
  refine ⟨lim.keeps x.toInCall.keep, codeAny_func ?_⟩
  have I : Inv (cxOf CX0 P w K mg base N qual scope f (.ref cc) A outer s H E) [] (L2.start N vs) H s1 := inv_start S hr.hd e0 hl r x
  have hLe := hL s.heap.objs.size f
  have PL : PE (cxOf CX0 P w K mg base N qual scope f (.ref cc) A outer s H E) (.Lambda lp bx lsc lpos) (tLam T L bx (cloFrom (envOfC qual scope s.heap.objs.size f (.ref cc)).cells lsc.names [])) :=
    pe_lam TB rfl hLe (by rw [hLe] at hm; exact hm) (fun p hp e => by have := hu p hp e; rw [hLe] at this; exact this) (hdef _) (fun y hy e => .inl (hfree y hy e))
  refine wpAny_execs_cons (wpAny_Return_some (thn (PL.run [] s1 _ H (fun v H' => ExtN H H' ∧ Tabs T H' ∧ ∃ f' c', v = .ref f' ∧ H' f' = some (FnL f' (L.F (cloFrom (envOfC qual scope s.heap.objs.size f (.ref cc)).cells lsc.names []) c') bx) ∧ H' c' = some (CodeO c' L.qual)) I
    ⟨hT, fun f' c' H1 e1 _ e2 _ e3 e4 => ⟨e1, e2, f', c', rfl, e3, e4⟩⟩) fun u s2 z => ?_))
  obtain ⟨v, H1, J, rv, e1, T1, f', c', rfl, hf', hc'⟩ := z
  have capf : ∀ y ∈ lsc.names, y.2 = .free → ∃ c, (envOfC qual scope s.heap.objs.size f (.ref cc)).cells.lookup y.1 = some c := fun y hy e => J.ok.has _ (.inl (hfree y hy e))
  have sub : ∀ y c, (cloFrom (envOfC qual scope s.heap.objs.size f (.ref cc)).cells lsc.names []).lookup y = some c → (envOfC qual scope s.heap.objs.size f (.ref cc)).cells.lookup y = some c := fun y c e => clo_cm capf e
  have free1 : ∀ a ∈ cellsOf (L.F (cloFrom (envOfC qual scope s.heap.objs.size f (.ref cc)).cells lsc.names []) c'), H1 a = none := fun a ha => by
    obtain ⟨y, h⟩ := mem_cellsOf.mp ha
    exact J.freeC y a (sub y a h)
  have new1 : ∀ a ∈ cellsOf (L.F (cloFrom (envOfC qual scope s.heap.objs.size f (.ref cc)).cells lsc.names []) c'), s.heap.objs.size ≤ a := fun a ha => by
    obtain ⟨y, h⟩ := mem_cellsOf.mp ha
    exact J.ok.cab y a rfl (sub y a h)
  have gC : ∀ a ∈ cellsOf (L.F (cloFrom (envOfC qual scope s.heap.objs.size f (.ref cc)).cells lsc.names []) c'), ∃ o, gCel s2.heap a = some (Cel a o) ∧ s2.heap.get? a = some o ∧ ∃ v, o.data = .cell v := fun a ha => by
    obtain ⟨y, h⟩ := mem_cellsOf.mp ha
    obtain ⟨v, o, ho, hd⟩ := J.cell y a (sub y a h)
    exact ⟨o, gCel_at ho, ho, v, hd⟩
  have keep : ∀ b o, H1 b = some o → putC (gCel s2.heap) H1 (cellsOf (L.F (cloFrom (envOfC qual scope s.heap.objs.size f (.ref cc)).cells lsc.names []) c')) b = some o := fun b o e =>
    (putC_out fun hm => by rw [free1 b hm] at e; cases e).trans e
  have B := J.base
  have nex : ∀ b : Addr, b ∉ ([] : List Addr) := fun _ z => nomatch z
  have U : Un (frs outer) [] H (putC (gCel s2.heap) H1 (cellsOf (L.F (cloFrom (envOfC qual scope s.heap.objs.size f (.ref cc)).cells lsc.names []) c'))) s.heap s2.heap :=
    ⟨B.keep, B.slot, fun b o e n hx => (putC_out fun hm => absurd (Heap.lt_size e) (Nat.not_lt.mpr (new1 b hm))).trans (B.free b o e n hx), B.there, fun b xs e => keep _ _ (B.tups b xs e), fun b o xs e => keep _ _ (B.frzs b o xs e),
      fun b ps e => by obtain ⟨more, z⟩ := B.tbls b ps e; exact ⟨more, keep _ _ z⟩⟩
  refine ⟨.ref f', _, J.os, J.bare, U, hok_put J.hok free1 (fun a ha => by obtain ⟨o, h1, h2, _⟩ := gC a ha; exact ⟨o, h1, h2⟩), rv, hq f' c' _ _ (fun b o e n => keep b o (e1 b o e n)) (T1.ext keep) ⟨keep _ _ hf', keep _ _ hc', hl, fun y c h => ?_, fun y z c h1 h2 => J.ok.inj y z c (sub y c h1) (sub z c h2), fun i y hy => ?_⟩⟩
  · have hm : c ∈ cellsOf (L.F (cloFrom (envOfC qual scope s.heap.objs.size f (.ref cc)).cells lsc.names []) c') := mem_cellsOf.mpr ⟨y, h⟩
    obtain ⟨o, h1, h2, v, h3⟩ := gC c hm
    exact ⟨o, (putC_in hm).trans h1, v, h3⟩
  · have hyp := List.mem_of_getElem? hy
    have hi : i < ps.length := (List.getElem?_eq_some_iff.mp hy).1
    have hN : N[i]? = some y := by
      have h2 : (N.take ps.length)[i]? = some y := by rw [S.pre]; exact hy
      rw [List.getElem?_take_of_lt hi] at h2
      exact h2
    have hv : vs[i]? = some (vs[i]'(by omega)) := List.getElem?_eq_getElem _
    have hs : (L2.start N vs)[i]? = some (some (vs[i]'(by omega))) := by
      unfold L2.start
      rw [List.getElem?_append_left (by rw [List.length_map]; omega), List.getElem?_map, hv]
      rfl
    obtain ⟨m, hn, hloc⟩ := J.loc
    obtain ⟨u', ru, l⟩ := hloc i y _ hN hs (.inr (.inl (hps y hyp).1))
    rcases l with ⟨z, _⟩ | ⟨_, c, hc, o, ho, hd⟩
    · have z' : scope.names.lookup y = some .local := z
      rw [(hps y hyp).1] at z'
      cases z'
    · have hcl : (cloFrom (envOfC qual scope s.heap.objs.size f (.ref cc)).cells lsc.names []).lookup y = some c := clo_has capf (hps y hyp).2 hc
      have hm : c ∈ cellsOf (L.F (cloFrom (envOfC qual scope s.heap.objs.size f (.ref cc)).cells lsc.names []) c') := mem_cellsOf.mpr ⟨y, hcl⟩
      exact ⟨c, o, _, hcl, (putC_in hm).trans (gCel_at ho), hv, u', hd, ru⟩

/-! ### a def called with a lambda of the running frame: its cells are tracked for the time of the call -/
def clsOf (cl : List (Str × Addr)) : List Addr := (cl.map (·.1)).filterMap fun y => cl.lookup y
theorem clsOf_F (L : LKind) (cl : List (Str × Addr)) (c : Addr) : cellsOf (L.F cl c) = clsOf cl := rfl
theorem mem_clsOf {cl : List (Str × Addr)} {c : Addr} : c ∈ clsOf cl ↔ ∃ y, cl.lookup y = some c := mem_cellsOf (F := ⟨"", "", ⟨[], [], none, [], [], none, []⟩, [], ⟨.function, [], false, false, []⟩, cl, 0⟩)
def tTrk (L : LKind) (b : Expr) (cl : List (Str × Addr)) (fr : List Str) (js : List Nat) (sp : Sp) (t : TA) : TE := fun σ H Q => t σ H fun vs H1 => ∃ ws : List V, js.map (slotAt σ) = ws.map some ∧
  ∀ (H2 : Hp), (∀ a ∈ clsOf cl, H1 a = none) → (∀ a o, H1 a = some o → H2 a = some o) → (∀ a ∈ clsOf cl, ∃ o, H2 a = some (Cel a o)) → (∀ a, a ∉ clsOf cl → H2 a = H1 a) → (∀ f c, H1 f = some (FnL f (L.F cl c) b) → H1 c = some (CodeO c L.qual) → Clo H2 f (L.F cl c) b fr ws) →
    sp vs H2 (fun v H' => (∀ a ∈ clsOf cl, H' a = H2 a) ∧ Q v (dropC H' (clsOf cl))) E0
section
variable {X : Cx} {k j : Nat} {x : Str} {f : Addr} {fd : FuncData} {e : Expr} {es : List Expr} {p pos : Pos} {t : TA} {L : LKind} {b : Expr} {fr ps : List Str} {js : List Nat} {sp : Sp} {cl : List (Str × Addr)}
theorem pe_trk (F : FnOk X.prog X.w X.K X.mg X.base CX0 k f fd ps sp) (hr : Room j X.A) (hkj : k ≤ j) (hg : Gl X x) (hm : X.mg x = some (.ref f)) (hk : PySem.W.keepIn X.K (.ref f) = true) (hb : Binds X.K fd ps []) (cp : X.Ok → Caps X cl fr js) (hfn : ∀ y, X.fn y = true) (ha : PA X (e :: es) t)
    (hdb : (x == ("__debug__" : Str)) = false := by decide) (he : starEach (e :: es) X.env = (false, eval e X.env) :: starEach es X.env := by rfl) (hpl : (backTo pos (starEach es X.env)).any (·.1) = false := by rfl) :
    PE X (.Call (.Name x p) (e :: es) [] pos) (tTrk L b cl fr js sp t) := by
  refine ⟨fun pins s σ H Q I h => ?_⟩
  refine wpAny_Call_Name_kw (ld_glob I hg hm ?_ hdb)
  refine PySem.W.callWith_K (h₀ := X.base) I.ok.mod.kin hk (thn (ha.run pos pins s σ H _ I h) fun us s1 ⟨vs, H1, I1, r, ws, hws, q⟩ => ⟨I1.kIn, ?_⟩) he hpl
  have CP := cp I1.ok
  have CA := cells_of I1 CP
  have free1 : ∀ a ∈ clsOf cl, H1 a = none := fun a hm => by
    obtain ⟨y, h⟩ := mem_clsOf.mp hm
    exact (CA.all y a h).1
  have new1 : ∀ a ∈ clsOf cl, X.s_0.heap.objs.size ≤ a := fun a hm => by
    obtain ⟨y, h⟩ := mem_clsOf.mp hm
    exact I1.ok.cab y a (hfn y) (CP.sub y a h)
  have gC : ∀ a ∈ clsOf cl, ∃ o, gCel s1.heap a = some (Cel a o) ∧ s1.heap.get? a = some o ∧ ∃ v, o.data = .cell v := fun a hm => by
    obtain ⟨y, h⟩ := mem_clsOf.mp hm
    obtain ⟨_, v, o, ho, hd⟩ := CA.all y a h
    exact ⟨o, gCel_at ho, ho, v, hd⟩
  have keep : ∀ b o, H1 b = some o → putC (gCel s1.heap) H1 (clsOf cl) b = some o := fun b o e => (putC_out fun hm => by rw [free1 b hm] at e; cases e).trans e
  have hG : ∀ a ∈ clsOf cl, ∃ o, gCel s1.heap a = some (Cel a o) ∧ s1.heap.get? a = some o := fun a hm => by
    obtain ⟨o, h1, h2, _⟩ := gC a hm
    exact ⟨o, h1, h2⟩
  have hq := q (putC (gCel s1.heap) H1 (clsOf cl)) free1 keep (fun a hm => by obtain ⟨o, h1, _⟩ := hG a hm; exact ⟨o, (putC_in hm).trans h1⟩) (fun a hm => putC_out hm) (fun f c h1 h2 => ⟨keep _ _ h1, keep _ _ h2, by
      have e1 := CA.len
      rw [hws, List.length_map] at e1
      exact e1, fun y a h => by
      have hm : a ∈ clsOf cl := mem_clsOf.mpr ⟨y, h⟩
      obtain ⟨o, g1, g2, v, g3⟩ := gC a hm
      exact ⟨o, (putC_in hm).trans g1, v, g3⟩, CA.inj, fun i y h => by
      obtain ⟨a, ha, hv⟩ := CA.has i y h
      have hm : a ∈ clsOf cl := mem_clsOf.mpr ⟨y, ha⟩
      have hi : i < ws.length := by
        have e1 := CA.len
        rw [hws, List.length_map] at e1
        rw [e1]
        exact (List.getElem?_eq_some_iff.mp h).1
      have hw : ws[i]? = some ws[i] := List.getElem?_eq_getElem hi
      obtain ⟨u, ru, o, ho, hd⟩ := hv ws[i] (by rw [hws, List.getElem?_map, hw]; rfl)
      exact ⟨a, o, ws[i], ha, (putC_in hm).trans (gCel_at ho), hw, u, hd, ru⟩⟩)
  have lt1 : ∀ b ∈ frs X.stack, b ∉ clsOf cl := fun b hb hm => by
    rcases List.mem_cons.mp (I1.stkSub b hb) with z | z
    · obtain ⟨y, h⟩ := mem_clsOf.mp hm
      exact I1.cne y b (CP.sub y b h) z
    · obtain ⟨_, o, ho, _⟩ := I1.ok.funs.mem z
      exact absurd (Heap.lt_size ho) (Nat.not_lt.mpr (new1 b hm))
  have e0 : Env0 X.prog X.w X.K X.mg X.base X.A X.stack s1 (putC (gCel s1.heap) H1 (clsOf cl)) :=
    ⟨I1.ok.frames, I1.ok.mod, fun b o e => ⟨(I1.bs b o e).1, (putC_out fun hm => absurd (Nat.lt_of_lt_of_le (Heap.lt_size e) I1.ok.bsz) (Nat.not_lt.mpr (new1 b hm))).trans (I1.bs b o e).2⟩, Nat.le_trans I1.ok.bsz I1.sz, I1.stack,
      fun b hb => (putC_out (lt1 b hb)).trans (I1.stkFree b hb), hok_put I1.hok free1 hG, I1.bare⟩
  have hl : us.length = ps.length := by rw [← r.length]; exact F.len _ _ _ _ hq
  have hbd := hb s1 us I1.kIn (by rw [List.append_nil]; exact hl)
  rw [List.append_nil] at hbd
  refine wpAny_call (codeAny_mono (F.run X.A X.stack s1 _ ⟨us, []⟩ us vs _ E0 (hr.mono hkj) e0 hbd r hq) fun r s' z => ?_)
  cases r with
  | error e => exact False.elim z
  | ok fl =>
    cases fl with
    | ret u =>
      obtain ⟨v, H', os, bare, un, hok, rv, q2, q3⟩ := z
      obtain ⟨u2, h2⟩ := un_put free1 hG un hok (fun a hm => (q2 a hm).trans (putC_in hm))
      obtain ⟨hh, g, d, tk, os'⟩ := s'
      obtain rfl : os' = s1.os := os
      exact ⟨v, _, I1.call (h' := hh) (g' := g) (d' := d) (t' := tk) (ch := []) u2 h2 bare (fun b z => nomatch z), rv, q3⟩
    | next => exact False.elim z
    | brk => exact False.elim z
    | cont => exact False.elim z
end
end Fs

set_option Elab.async false
set_option linter.all false
set_option maxRecDepth 100000
set_option maxHeartbeats 4000000
/-! rules that the layer has not -/
namespace Fs
open PySem PySem.Spec PyProof.Rows L2

/-! ### d.values() as a value; tuple(..), list(..), sum(..) of it -/
def VwO (p d : Addr) : HO := .ext fun h => h.get? p = some { cls := .type "dict_values", data := .fields #[.ref d] }
theorem vwO_new {P : Program} {w : World} {H : Hp} {h : Heap} {p d : Addr} (e : h.get? p = some { cls := .type "dict_values", data := .fields #[.ref d] }) : ObjOk P w H h p (VwO p d) := ⟨e, ⟨_, e⟩, fun _ _ a st => st _ a⟩
def tVals (td : TE) : TE := fun σ H Q => td σ H fun x H1 => ∃ d kvs, x = .ref d ∧ H1 d = some (.dK kvs) ∧ ∀ p, H1 p = none → Q (.ref p) (upd H1 p (VwO p d))
section
variable {X : Cx} {o : Expr} {pos apos : Pos} {td : TE}
theorem pe_vals (ho : PE X o td) (hbase : attributeBase o "values" X.env (eval o X.env) = eval o X.env := by rfl) (hline : (apos.endLine == pos.line) = true := by rfl) : PE X (.Call (.Attribute o "values" apos) [] [] pos) (tVals td) := by
  refine ⟨fun pins s σ H Q I h => ?_⟩
  refine wpAny_Call_method0_late hbase hline (thn (ho.run pins s σ H _ I h) fun v s1 ⟨x, H1, I1, r1, d, kvs, ex, hd, q⟩ => ?_)
  subst ex
  obtain rfl : v = Value.ref d := r1
  obtain ⟨_, hsys, vs, rel, dof⟩ := (show ObjOk X.prog X.w H1 s1.heap d (.dK kvs) from I1.hok d _ hd)
  obtain ⟨ep, ob, es, hob, hex, _⟩ := id dof.dictAt
  refine ⟨"dict", "dict.values", F.plainAttrs_dict, F.slot_dict_values, F.type_dict_values, ⟨ob, hob, hex.1⟩, fun b e => ?_, Calls.callWith_builtin rfl (PySem.evalArgs_none ?_)⟩
  · cases e
    exact ⟨ob, hob, hex.2.1⟩
  refine call_meetsIn F.slot_dict_values ⟨ob, hob, hex.1⟩ F.entry_dict_values (F.args_dict_values_1 _) (meets_dict_values (mixKind X.prog X.w) d hsys) ⟨⟨vs, dof⟩, ?_⟩
  exact ⟨.ref _, _, I1.laid (t' := s1.toks) (fun b u e => Heap.get?_push_of_some _ e) (Nat.le_refl _) (vwO_new (Heap.get?_push_size _ rfl)), rfl, q _ (I1.hok.fresh (Nat.le_refl _))⟩
end
section
variable {X : Cx} {pins : List (Addr × Obj)} {σ : L2.St} {H : Hp} {s : Shared}
/-- what the library asks of such a view -/
theorem view_src (I : Inv X pins σ H s) {p d : Addr} {kvs : List (Key × V)} (hp : H p = some (VwO p d)) (hd : H d = some (.dK kvs)) :
    ∃ (vs : List (Key × Value)) (ep : Nat), KV kvs vs ∧ kvs.length ≤ sizeLine ∧ s.heap.IsValuesView p d ∧ s.heap.DictAt (mixKind X.prog X.w) d vs ep := by
  obtain ⟨hz, _, vs, rel, dof⟩ := (show ObjOk X.prog X.w H s.heap d (.dK kvs) from I.hok d _ hd)
  obtain ⟨ep, hat⟩ := dof.dictAt
  exact ⟨vs, ep, rel, hz, ⟨_, (I.hok p _ hp).1, rfl, rfl⟩, hat⟩
theorem vals_at {κ : Type} : ∀ {kvs : List (κ × V)} {vs : List (κ × Value)} {acc : List Value}, KV kvs vs → acc.length = vs.length → (∀ (j : Nat) (v : Value), acc[j]? = some v → ∃ k, vs[j]? = some (k, v)) → Vals (kvs.map (·.2)) acc := fun {kvs vs acc} r hl h => by
  rw [PySem.W.kdl_vals_eq acc hl h]
  clear hl h acc
  unfold KV at r
  induction r with
  | nil => exact .nil
  | cons a _ ih => exact .cons a.2 ih
theorem cr_listV (hc : X.calm = true) : CallR X (.type "list") (fun xs H Q => ∃ p d kvs, xs = [V.ref p] ∧ H p = some (VwO p d) ∧ H d = some (.dK kvs) ∧ ∀ q, H q = none → Q (.ref q) (upd H q (.lst (kvs.map (·.2))))) := by
  intro pins s σ H xs us Q I r h
  obtain ⟨p, d, kvs, rfl, hp, hd, q⟩ := h
  rw [Vals.ref1 r]
  obtain ⟨vs, ep, rel, hz, hv, hat⟩ := view_src I hp hd
  have hl : kvs.length = vs.length := Paired.length rel
  refine PySem.W.kdl_call (PySem.W.kdl_values (knd := mixKind X.prog X.w) (kvs := vs) (ep := ep)) (I.ok.hd hc) ⟨hv, hat⟩ (hl ▸ hz) fun h' tk acc c hk hS ha => ?_
  refine ⟨.ref _, _, I.laid hk (Nat.le_refl _) (show ObjOk X.prog X.w _ _ _ (.lst (kvs.map (·.2))) from ⟨by rw [List.length_map]; exact hz, acc.toList, c, ?_, by rw [Array.toArray_toList]; exact hS⟩), rfl, q _ (I.hok.fresh (Nat.le_refl _))⟩
  exact vals_at rel (by rw [Array.length_toList]; exact ha.1) fun j v e => ha.2 j v (by rw [← Array.getElem?_toList]; exact e)
theorem code_tupleV {P : Program} {w : World} {A : Around} {E : Value → Shared → Prop} {s : Shared} {p d : Addr} {vs : List (Key × Value)} {ep : Nat} {Q1 : Value → Shared → Prop} (hh : A.handled = none) (hv : s.heap.IsValuesView p d) (hat : s.heap.DictAt (mixKind P w) d vs ep) (hn : vs.length ≤ sizeLine)
    (h : ∀ (h' : Heap) (tk : Nat) (acc : Array Value), (∀ b o, s.heap.get? b = some o → h'.get? b = some o) → ItemsOf (fun i v => ∃ k, vs[i]? = some (k, v)) acc vs.length → Q1 (.ref h'.objs.size) { s with heap := h'.push { cls := .type "tuple", data := .seq acc }, toks := tk }) :
    codeAny (model P w) A (.call (.builtin "tuple.__new__") ⟨[.type "tuple", .ref p], []⟩) (wants Q1 E) s := by
  refine codeAny_of_tree ?_
  show wpAny _ A.in1 (do checkBuiltinCall "tuple.__new__" ⟨[.type "tuple", .ref p], []⟩; again (.builtin "tuple.__new__" ⟨[.type "tuple", .ref p], []⟩)) _ _ s
  refine wpAny_bind (wpAny_of_eq (F.newCall_tuple_1 _) (wpAny_pure ⟨plainId_quiet F.plain_tuple_new _, codeAny_builtin F.entry_tuple_new ?_⟩))
  rw [Around.under_plainId F.plain_tuple_new _]
  have hsub := sub_tuple_self
  have hinit := init_tuple_lookup
  have hmh := madeHere_tuple
  have K := PySem.W.kdl_values (prog := P) (w := w) (knd := mixKind P w) (r := p) (d := d) (kvs := vs) (ep := ep)
  have hT := K.type s ⟨hv, hat⟩
  wp_walk using wpAny_typeOf hT, PySem.W.kdu_collect K (show A.in1.handled = none from hh) ⟨hv, hat⟩ hn
  intro h' tk acc hk ha
  show wpAny _ _ (Builtin.Tuple.tupleExact acc.toList.toArray >>= fun v => ret v) _ _ _
  unfold Builtin.Tuple.tupleExact
  refine wpAny_bind (wpAny_newObj_type ?_ (by show acc.toList.toArray.size ≤ sizeLine; simp only [Array.toArray_toList]; rw [ha.1]; exact hn))
  refine wpAny_pure ?_
  rw [Array.toArray_toList]
  exact h h' tk acc hk ha
theorem cr_tupleV (hc : X.calm = true) : CallR X (.type "tuple") (fun xs H Q => ∃ p d kvs, xs = [V.ref p] ∧ H p = some (VwO p d) ∧ H d = some (.dK kvs) ∧ ∀ q, H q = none → Q (.ref q) (upd H q (.tup (kvs.map (·.2))))) := by
  intro pins s σ H xs us Q I r h
  obtain ⟨p, d, kvs, rfl, hp, hd, q⟩ := h
  rw [Vals.ref1 r]
  obtain ⟨vs, ep, rel, hz, hv, hat⟩ := view_src I hp hd
  have hl : kvs.length = vs.length := Paired.length rel
  refine callType_codes (Q₁ := fun obj s1 => s1.TypeIs obj "tuple" ∧ EP X pins σ Q obj s1) F.called_tuple (F.typeCall_tuple_1 _) F.entry_object_init (code_tupleV (by simpa using I.ok.hd hc) hv hat (hl ▸ hz) fun h' tk acc hk ha => ?_) fun obj s1 h1 => ?_
  · refine ⟨⟨_, Heap.get?_push_size _ rfl, rfl⟩, ?_⟩
    have I1 : Inv X pins σ H { s with heap := h', toks := tk } := I.kept hk
    refine ⟨.ref _, _, I1.laid (t' := tk) (fun b u e => Heap.get?_push_of_some _ e) (Nat.le_refl _) (show ObjOk X.prog X.w _ _ _ (.tup (kvs.map (·.2))) from ⟨by rw [List.length_map]; exact hz, acc.toList, ?_, IsTup.new _ _⟩), rfl, q _ (I1.hok.fresh (Nat.le_refl _))⟩
    exact vals_at rel (by rw [Array.length_toList]; exact ha.1) fun j v e => ha.2 j v (by rw [← Array.getElem?_toList]; exact e)
  · exact ⟨h1.1, F.args_object_init_2 obj _, object_init_meets F.called_tuple.init.lookup F.called_tuple.made (by decide) X.prog X.w X.A.in1 _ s1 ⟨h1.1, rfl, h1.2⟩⟩
/-- sum of the values of an empty dict -/
theorem cr_sumV0 (hc : X.calm = true) : CallR X (.builtin "sum") (fun xs H Q => ∃ p d, xs = [V.ref p] ∧ H p = some (VwO p d) ∧ H d = some (.dK []) ∧ Q (.int 0) H) := by
  intro pins s σ H xs us Q I r h
  obtain ⟨p, d, rfl, hp, hd, q⟩ := h
  rw [Vals.ref1 r]
  obtain ⟨vs, ep, rel, hz, hv, hat⟩ := view_src I hp hd
  obtain rfl : vs = [] := by cases rel; rfl
  have K := PySem.W.kdl_values (prog := X.prog) (w := X.w) (knd := mixKind X.prog X.w) (r := p) (d := d) (kvs := ([] : List (Key × Value))) (ep := ep)
  refine call_sum_walkAnyS ?_
  obtain ⟨oI, St, hit, W, st⟩ := K.iter X.A.in1 s (I.ok.hd hc) ⟨hv, hat⟩
  refine hit _ _ ⟨s.heap.objs.size, _, _, _, 0, _, _, fun _ => 0, rfl, W.toS, st, fun b hb => ?_, fun i v z => ?_, fun s' t' hm => ?_⟩
  · show b < (s.heap.push oI).objs.size
    rw [size_push']
    rcases List.mem_cons.mp hb with e | hb
    · rw [e]; exact Nat.lt_succ_self _
    · rw [List.mem_singleton.mp hb]; exact Nat.lt_succ_of_lt (K.there _ ⟨hv, hat⟩).2
  · obtain ⟨k, e⟩ := z
    simp at e
  · have hk : ∀ b o, s.heap.get? b = some o → s'.heap.get? b = some o := fun b o e =>
      hm.heap b o (fun hI => absurd (Heap.lt_size e) (by rw [List.mem_singleton.mp hI]; exact Nat.lt_irrefl _)) (Heap.get?_push_of_some _ e)
    rw [Moved.eq_with hm]
    exact ⟨.int 0, H, I.kept hk, ⟨_, rfl⟩, q⟩
end

/-! ### max(xs, default=0) -/
def rMaxDef (K : PySem.W.Frag) : List V → List V → Hp → VK → Prop := fun vs zs H Q => ∃ (a : Addr) (ns : List Int), vs = [.ref a] ∧ zs = [.int 0] ∧ SqL K H a (ns.map V.int) ∧ (ns = [] → Q (.int 0) H) ∧ ∀ m, m ∈ ns → (∀ y ∈ ns, y ≤ m) → Q (.int m) H
theorem maxOf_spec : ∀ (ys : List Int) (x : Int), PySem.W.maxOf x ys ∈ x :: ys ∧ ∀ a ∈ x :: ys, a ≤ PySem.W.maxOf x ys
  | [], x => ⟨List.mem_cons_self, fun a h => by rcases List.mem_cons.mp h with rfl | h; exact Int.le_refl _; cases h⟩
  | y :: ys, x => by
    have e : PySem.W.maxOf x (y :: ys) = PySem.W.maxOf (if x < y then y else x) ys := by
      show List.foldl _ (if decide (x < y) = true then y else x) ys = _
      simp only [decide_eq_true_eq]
      rfl
    obtain ⟨h1, h2⟩ := maxOf_spec ys (if x < y then y else x)
    rw [e]
    have hx : x ≤ (if x < y then y else x) ∧ y ≤ (if x < y then y else x) ∧ ((if x < y then y else x) = x ∨ (if x < y then y else x) = y) := by
      split <;> omega
    refine ⟨?_, fun a ha => ?_⟩
    · rcases List.mem_cons.mp h1 with q | q
      · rw [q]
        rcases hx.2.2 with z | z
        · rw [z]; exact List.mem_cons_self
        · rw [z]; exact List.mem_cons_of_mem _ List.mem_cons_self
      · exact List.mem_cons_of_mem _ (List.mem_cons_of_mem _ q)
    · have g := h2 _ List.mem_cons_self
      rcases List.mem_cons.mp ha with rfl | ha
      · exact Int.le_trans hx.1 g
      · rcases List.mem_cons.mp ha with rfl | ha
        · exact Int.le_trans hx.2.1 g
        · exact h2 a (List.mem_cons_of_mem _ ha)
theorem cr_maxDef {X : Cx} (hc : X.calm = true) (hu : X.A.units + 1 < cLine) : CallRK X (.builtin "max") [Str.ofString "default"] (rMaxDef X.K) := by
  intro pins s σ H vs zs us ws Q I r rz h
  obtain ⟨a, ns, rfl, rfl, hs, q0, q⟩ := h
  obtain ⟨its, rv, hl, _⟩ := I.list hs
  rw [Vals.ref1 r]
  obtain ⟨w1, rfl, t, rfl⟩ := vals1 rz
  have hi := rv.ints
  refine PySem.W.max_list_datum_default (α := Int) (xs := ns) (I.ok.hd hc) hl.isList (by simpa using PySem.W.HoldAll.of_ints hi) hu (fun e h' tk hk => ⟨.int 0, H, I.kept hk, ⟨_, rfl⟩, q0 e⟩) fun y ys i v h' tk e hv hh hk => ?_
  obtain ⟨n, t, rfl⟩ : ∃ n t, v = Value.int n t := by
    have hm : v ∈ its := by
      have := Array.mem_of_getElem? hv
      simpa using this
    exact SrtO.ints_mem hi v hm
  have en : n = PySem.W.maxOf y ys := by
    obtain ⟨as, g⟩ := hh
    cases g
    rfl
  obtain ⟨g1, g2⟩ := maxOf_spec ys y
  rw [← en] at g1 g2
  exact ⟨.int n, H, I.kept hk, ⟨_, rfl⟩, q n (by rw [e]; exact g1) (by rw [e]; exact g2)⟩
end Fs

set_option Elab.async false
set_option linter.all false
set_option maxRecDepth 100000
set_option maxHeartbeats 4000000
/-! set(list of ints), sorted of a set of any size; a def read off a class and called -/
namespace Fs
open PySem PySem.Spec PyProof.Rows L2 ClX

section
variable {P : Program} {w : World} {A : Around} {E : Value → Shared → Prop} {s : Shared}
/-- a set just made -/
abbrev so0 (w : World) : Obj := { cls := .type "set", dict := none, data := .set #[] 0 (.fresh 0 0 (!w.params.followText "set-order")) }
theorem set_of_list {l : Addr} {items : Array Value} (ns : List Int) {Q : Value → Shared → Prop} (hh : A.handled = none) (hl : s.heap.IsList l items) (hi : IntsAre items.toList ns) (hb : ns.length + 1 < scanBound)
    (h : ∀ (h' : Heap) (tk c : Nat), SetR w h' s.heap.objs.size (fun j => decide (j ∈ ns)) c → c ≤ ns.length → (∀ b o, s.heap.get? b = some o → h'.get? b = some o) → Q (.ref s.heap.objs.size) { s with heap := h', toks := tk }) :
    wpAny (model P w) A (call (.type "set") [.ref l]) Q E s := by
  have hsz : items.size = ns.length := (Array.length_toList (xs := items)).symm.trans (IntsAre.length hi)
  obtain ⟨c0, tl0, mro0⟩ := F.called_set.mro
  have a1 := F.called_set.made
  have a2 := F.called_set.sub
  have a3 := F.called_set.notType
  have a4 := F.called_set.canCreate
  have a5 := F.typeCall_set_1 (.ref l)
  refine wpAny_call (codeAny_of_tree ?_)
  show wpAny _ _ (callAny (.type "set") _) _ _ _
  refine wpAny_pure ⟨Code.quiet_builtin _ (by decide +kernel), codeAny_builtin F.entry_type_call ?_⟩
  rw [Around.under_plain (weight_type_call_type "set" [.ref l] []) rfl]
  repeat (any_goals (first | assumption | wp_step))
  refine codeAny_mono (code_set_led1 (.ref l) (E := E) (Q₁ := fun obj s1 => obj = .ref s.heap.objs.size ∧ s1 = { s with heap := s.heap.push (so0 w) }) ⟨rfl, rfl⟩) fun r s1 hr => ?_
  match r, hr with
  | .error e, hr => exact hr
  | .ok .next, hr => exact hr.elim
  | .ok .brk, hr => exact hr.elim
  | .ok .cont, hr => exact hr.elim
  | .ok (.ret obj), hr =>
    obtain ⟨rfl, rfl⟩ := hr
    have gS : (s.heap.push (so0 w)).get? s.heap.objs.size = some (so0 w) := Heap.get?_push_size _ rfl
    have gT : Shared.TypeIs { s with heap := s.heap.push (so0 w) } (.ref s.heap.objs.size) "set" := ⟨_, gS, rfl⟩
    have b1 := F.called_set.init.lookup
    have b2 := F.called_set.init.bind (.ref s.heap.objs.size)
    repeat (any_goals (first | assumption | wp_step))
    refine codeAny_mono (codeAny_call_builtin (R := wants (fun r s2 => r = .none ∧ ∃ h' tk c, s2 = { s with heap := h', toks := tk } ∧ SetR w h' s.heap.objs.size (fun j => decide (j ∈ ns)) c ∧ c ≤ ns.length ∧ (∀ b o, s.heap.get? b = some o → h'.get? b = some o)) E)
      F.called_set.init.plain F.entry_set_init (check_set_init_1 gT ?_)) fun r2 s2 h2 => ?_
    · obtain ⟨ol, hol, hcl, nl, hdl⟩ := hl
      obtain ⟨ocls, odict, odata, oslots⟩ := ol
      obtain rfl : ocls = .type "list" := hcl
      obtain rfl : odata = .seq items nl := hdl
      have hol2 : (s.heap.push (so0 w)).get? l = some { cls := .type "list", dict := odict, data := .seq items nl, slots := oslots } := Heap.get?_push_of_some _ hol
      have hl2 : (s.heap.push (so0 w)).IsList l items := ⟨_, hol2, rfl, nl, rfl⟩
      have c1 := F.sub_list_set
      have c2 := F.sub_list_frozenset
      have c3 : (Value.type "list" == Value.type "dict") = false := by decide
      unfold Builtin.«set.__init__» noKeywords Builtin.Frozenset.updateFrom
      generalize hPI : pyIter = PI
      wp_walk
      subst hPI
      refine wpAny_pyIter_list hl2 ?_
      refine wpAny_bind (wpAny_runValue ?_)
      have ll : l < s.heap.objs.size := Heap.lt_size hol
      have hz : (s.heap.push (so0 w)).objs.size = s.heap.objs.size + 1 := Heap.size_push ..
      have n1 : l ≠ (s.heap.push (so0 w)).objs.size := by rw [hz]; exact Nat.ne_of_lt (Nat.lt_succ_of_lt ll)
      have n2 : s.heap.objs.size ∉ [(s.heap.push (so0 w)).objs.size, l] := by
        rw [hz]
        simp only [List.mem_cons, List.not_mem_nil, or_false, not_or]
        exact ⟨Nat.ne_of_lt (Nat.lt_succ_self _), Nat.ne_of_gt ll⟩
      have hv : ∀ (i : Nat) (v : Value), items[i]? = some v → ∃ k t, ns[i]? = some k ∧ v = .int k t := fun i v e => by
        have lt : i < ns.length := hsz ▸ (Array.getElem?_eq_some_iff.mp e).1
        obtain ⟨t, ev⟩ := PyProof.Rows.IntsAre.int_at hi i v ((Array.getElem?_toList ..).trans e)
        exact ⟨ns[i], t, List.getElem?_eq_getElem lt, by rw [ev, List.getD_eq_getElem?_getD, List.getElem?_eq_getElem lt]; rfl⟩
      refine set_update_ints ((Walks.list (by simp [hh]) _ l n1 items).toS) s.heap.objs.size n2 ns hsz hb hv (items.size - 0) 0 _ (by omega) (Nat.zero_le _)
        ⟨⟨_, Heap.get?_push_size _ rfl, rfl, rfl⟩, hl2.push _⟩ ⟨0, Nat.le_refl 0, setR_new_at (Heap.get?_push_of_some _ gS)⟩ fun s' c' hm hc' hS' => ?_
      rw [Moved.eq_with hm]
      show wpAny _ _ _ _ _ _
      refine wpAny_pure ?_
      show wpAny _ _ (ret Value.none) _ _ _
      refine wpAny_pure ⟨rfl, _, _, c', rfl, hS', hsz ▸ hc', fun b o e => ?_⟩
      have lb : b < s.heap.objs.size := Heap.lt_size e
      refine hm.heap b o ?_ (Heap.get?_push_of_some _ (Heap.get?_push_of_some _ e))
      simp only [List.mem_cons, List.not_mem_nil, or_false, not_or]
      exact ⟨Nat.ne_of_lt lb, by rw [hz]; exact Nat.ne_of_lt (Nat.lt_succ_of_lt lb)⟩
    · match r2, h2 with
      | .error e, h2 => exact h2
      | .ok .next, h2 => exact h2.elim
      | .ok .brk, h2 => exact h2.elim
      | .ok .cont, h2 => exact h2.elim
      | .ok (.ret r), h2 =>
        obtain ⟨rfl, h', tk, c', rfl, g1, g2, g3⟩ := h2
        repeat (any_goals (first | assumption | wp_step))
        exact h _ _ _ g1 g2 g3
/-- sorted of a set of ints, however many -/
theorem sorted_setAny {a : Addr} {S : Int → Bool} {n : Nat} {Q : Value → Shared → Prop} (R : SetR w s.heap a S n) (hh : A.handled = none)
    (hQ : ∀ (s' : Shared) (p : Addr) (out : List Value) (c : Nat) (ns : List Int), (∀ b o, s.heap.get? b = some o → s'.heap.get? b = some o) → s'.gens = s.gens → s'.os = s.os → s.heap.objs.size ≤ p →
      s'.heap.get? p = some (seqObj "list" out.toArray c) → IntsAre out ns → ns.Pairwise (· < ·) → (∀ k, k ∈ ns ↔ S k = true) → ns.length = n → n < scanBound → Q (.ref p) s') :
    wpAny (model P w) A (call (.builtin "sorted") [.ref a]) Q E s := by
  obtain ⟨o, es, ep, t, ho, hex, hd, g, nd, hm, hb, hf, hn, hr, hl⟩ := R
  have hnb : n < scanBound := by rw [← hn]; exact hb
  refine Calls.call_function_entry kind_sorted plain_sorted entry_sorted (args_sorted1 _) ?_
  unfold Builtin.«sorted»
  refine wpAny_bind (m := checkCount "sorted" 1 1 _) (wpAny_pure ?_)
  refine wpAny_bind (collect_set (A := A.in1) hh ⟨o, ho, hex.1, hd⟩ hf hb hr hl fun s1 vs k1 hz g1 o1 pm => ?_)
  have lv : vs.length = n := by rw [pm.length_eq, List.length_map, Array.length_toList]; exact hn
  have hI : IntsAre vs (vs.map Builtin.Re.reRawOf) := ints_of vs fun v hv => by
    obtain ⟨e, he, q⟩ := List.mem_map.mp (pm.mem_iff.mp hv)
    obtain ⟨k, tk, h1, _⟩ := g e he
    exact ⟨k, tk, q ▸ h1⟩
  have pk : (vs.map Builtin.Re.reRawOf).Perm (es.toList.map keyOf) := by
    have q := pm.map Builtin.Re.reRawOf
    rw [List.map_map] at q
    exact q
  have hfit : vs.length ≤ sizeLine := by rw [lv]; exact fits_of_scanBound hnb
  refine wpAny_bind (wpAny_newList ?_ hfit)
  have hoL : (s1.heap.push (seqObj "list" vs.toArray 0)).get? s1.heap.objs.size = some (seqObj "list" vs.toArray 0) := Heap.get?_push_size _ rfl
  refine wpAny_bind (wpAny_holding (wpAny_call_entry slot_list_sort ⟨_, hoL, rfl⟩ entry_list_sort (SrtO.list_sort_ord SrtO.swo_int hoL hfit (fun h2 => SrtO.ints_sortable hI h2) fun out a1 a2 => ⟨_, rfl, ?_⟩) (args_list_sort _)))
  obtain ⟨i1, i2, i3⟩ := SrtO.ints_out hI a1 a2
  obtain ⟨c, hc⟩ := sortedHeap_at (vs := vs) (out := out.toArray) hoL
  have pn : (out.map SrtO.iv).Perm (es.toList.map keyOf) := i2.trans pk
  refine wpAny_pure ⟨_, rfl, hQ _ s1.heap.objs.size out c _ (fun b u e => ?_) g1 o1 hz hc i1 (lt_of_le_nodup _ i3 (pn.nodup_iff.mpr nd)) (fun k => by rw [pn.mem_iff, ← hm k]) ?_ hnb⟩
  · have q := k1 b u e
    have lt := Heap.lt_size q
    show (sortedHeap (s1.heap.push (seqObj "list" vs.toArray 0)) s1.heap.objs.size vs out.toArray).get? b = some u
    rw [sortedHeap_old (Nat.ne_of_lt lt) (by rw [size_push']; exact Nat.lt_succ_of_lt lt)]
    exact Heap.get?_push_of_some _ q
  · rw [pn.length_eq, List.length_map, Array.length_toList]; exact hn
end
/-! ### the layer's rules -/
def rSetL (K : PySem.W.Frag) (w : World) : List V → Hp → VK → Prop := fun vs H Q => ∃ (l : Addr) (ns : List Int), vs = [V.ref l] ∧ SqL K H l (ns.map V.int) ∧ ns.length ≤ 1000 ∧
  ∀ (a : Addr) (c : Nat), H a = none → Q (.ref a) (upd H a (SetO w a (fun j => decide (j ∈ ns)) c))
def rSortedSetB (w : World) : List V → Hp → VK → Prop := fun vs H Q => ∃ (a : Addr) (S : Int → Bool) (n : Nat), vs = [V.ref a] ∧ H a = some (SetO w a S n) ∧
  ∀ (ns : List Int) (p : Addr), ns.Pairwise (· < ·) → (∀ k : Int, k ∈ ns ↔ S k = true) → H p = none → Q (.ref p) (upd H p (.lst (ns.map V.int)))
section
variable {X : Cx}
theorem cr_setL (hc : X.calm = true) : CallR X (.type "set") (rSetL X.K X.w) := by
  intro pins s σ H vs us Q I r h
  obtain ⟨l, ns, rfl, hs, hn, q⟩ := h
  obtain ⟨its, rv, hl, hz⟩ := I.list hs
  rw [Vals.ref1 r]
  refine set_of_list ns (I.ok.hd hc) hl.isList (by simpa using rv.ints) (by unfold scanBound; omega) fun h' tk c g1 g2 g3 => ?_
  exact ⟨.ref _, _, I.laid (t' := tk) g3 (Nat.le_refl _) (setO_new g1), rfl, q _ c (I.hok.fresh (Nat.le_refl _))⟩
theorem cr_sortedSetB (hc : X.calm = true) : CallR X (.builtin "sorted") (rSortedSetB X.w) := by
  intro pins s σ H vs us Q I r h
  obtain ⟨a, S, n, rfl, ha, q⟩ := h
  rw [Vals.ref1 r]
  refine sorted_setAny (setO_get I ha) (I.ok.hd hc) fun s' p out c ns k g o hp hg hi hs hm hl hb => ?_
  have hlen : (ns.map V.int).length ≤ sizeLine := by rw [List.length_map, hl]; exact fits_of_scanBound hb
  have hn : H p = none := I.hok.fresh hp
  exact ⟨.ref p, _, I.call' (ch := []) o (Un.laid k hp hn) (I.hok.laid k hp (show ObjOk X.prog X.w _ _ _ (.lst (ns.map V.int)) from ⟨hlen, out, c, vals_of_ints hi, hg⟩)) (by rw [g]; exact I.bare) (fun _ z => nomatch z), rfl, q ns p hs hm hn⟩
end

/-! ### C.f(..): a def read off a class -/
def tCFun (C : Addr) (sp : Sp) (E : XK) (ta : TE) (t : TA) : TE := fun σ H Q => ta σ H fun x H1 => x = .ref C ∧ t σ H1 fun vs H2 => sp vs H2 Q E
section
variable {X : Cx} {CX : CXT} {k j : Nat} {f C : Addr} {fd : FuncData} {ps : List Str} {sp : Sp} {E : XK} {m : Str} {mc : Value} {pos apos : Pos} {e o : Expr} {es : List Expr} {ta : TE} {t : TA} {pl : Sem Bool}
theorem pe_cfun (he : PE X o ta) (r : CRead X.K C mc) (c : CVal X.K C mc m (.ref f) (.ref f)) (F : FnOk X.prog X.w X.K X.mg X.base CX k f fd ps sp) (hk : PySem.W.keepIn X.K (.ref f) = true) (hr : Room k X.A) (hb : Binds X.K fd ps []) (hx : Passes CX X E) (ha : PA X (e :: es) t)
    (hst : starEach (e :: es) X.env = (false, eval e X.env) :: starEach es X.env := by rfl) (hpl : (backTo pos (starEach es X.env)).any (·.1) = false := by rfl)
    (ht : eval (.Call (.Attribute o m apos) (e :: es) [] pos) X.env = (do
      let ov ← eval o X.env
      standAt apos.atName
      let (f, first) ← holding [ov] (getMethod ov m pl)
      callWith pos f first (backTo pos (starEach (e :: es) X.env)) (backToKw pos (keywordEach [] X.env))) := by rfl) :
    PE X (.Call (.Attribute o m apos) (e :: es) [] pos) (tCFun C sp E ta t) := by
  refine ⟨fun pins s σ H Q I h => ?_⟩
  refine PySem.W.methodCall_KW (pl := pl) (thn (he.run pins s σ H _ I h) fun u s1 ⟨x, H1, I1, rx, ex, q⟩ => ?_) ht
  subst ex
  obtain rfl : u = Value.ref C := rx
  refine PySem.W.method_cls I1.kIn r.ga (getcval_ok I1 r c fun s2 I2 => ?_)
  refine PySem.W.callWith_K (h₀ := X.base) I.ok.mod.kin hk (thn (ha.run pos pins s2 σ H1 _ I2 q) fun us s3 ⟨vs, H2, I3, rv, q2⟩ => ⟨I3.kIn, ?_⟩) hst hpl
  exact run_fn (us := us) (dvs := []) (ds := []) F hr hb .nil hx I3 rv (by rw [List.append_nil]; exact q2)
end
end Fs

set_option Elab.async false
set_option linter.all false
set_option maxRecDepth 100000
set_option maxHeartbeats 4000000
/-! readings of pure code: what an expression may give (a word of the value and the heap), all that is tracked staying -/
namespace Fs
open PySem PySem.Spec PyProof.Rows L2 Evl

abbrev RP := V → Hp → Prop
def EvR (te : TE) (σ : L2.St) (H : Hp) (R : RP) : Prop := ∀ H1, Ex H H1 → ∀ Q : VK, (∀ v H2, Ex H1 H2 → R v H2 → Q v H2) → te σ H1 Q
/-- an argument list, each with its word -/
def EvAR (ta : TA) (σ : L2.St) (H : Hp) (R : List V → Hp → Prop) : Prop := ∀ H1, Ex H H1 → ∀ Q : List V → Hp → Prop, (∀ vs H2, Ex H1 H2 → R vs H2 → Q vs H2) → ta σ H1 Q
/-- a word that lasts -/
def Lasts (R : RP) : Prop := ∀ v H H', Ex H H' → R v H → R v H'
section
variable {σ : L2.St} {H H' : Hp} {te ta tb : TE} {tl tr : TA} {v x y z : V} {R R' S : RP} {D : Ends} {tz tu tw : TS} {i : Nat}
theorem EvR.mono (e : Ex H H') (h : EvR te σ H R) : EvR te σ H' R := fun H1 a Q q => h H1 (e.trans a) Q q
theorem EvR.imp (h : EvR te σ H R) (k : ∀ v H1, Ex H H1 → R v H1 → R' v H1) : EvR te σ H R' := fun H1 a Q q => h H1 a Q fun v H2 e r => q v H2 e (k v H2 (a.trans e) r)
theorem evr_ev (h : Ev te σ H v) : EvR te σ H (fun u _ => u = v) := fun H1 a Q q => h H1 a Q fun H2 e => q v H2 e rfl
theorem ev_evr (h : EvR te σ H (fun u _ => u = v)) : Ev te σ H v := fun H1 a Q q => h H1 a Q fun u H2 e r => by rw [r]; exact q H2 e
theorem ear_ea {vs : List V} (h : EvA tl σ H vs) : EvAR tl σ H (fun us _ => us = vs) := fun H1 a Q q => h H1 a Q fun H2 e => q vs H2 e rfl
theorem ear_nil : EvAR tNil σ H (fun us _ => us = []) := ear_ea ea_nil
theorem ear_cons {P : List V → Hp → Prop} (h : EvR te σ H R) (hl : Lasts R) (hr : EvAR tr σ H P) : EvAR (tCons te tr) σ H (fun us H' => ∃ x xs, us = x :: xs ∧ R x H' ∧ P xs H') := fun H1 a Q q =>
  h H1 a _ fun x H2 e2 r2 => hr H2 (a.trans e2) _ fun xs H3 e3 r3 => q _ H3 (e2.trans e3) ⟨x, xs, rfl, hl _ _ _ e3 r2, r3⟩
theorem lasts_eq : Lasts (fun u _ => u = v) := fun _ _ _ _ h => h
/-- two operands by their words, then the operator -/
theorem evr_op {r : R2} (ha : EvR ta σ H R) (hl : Lasts R) (hb : EvR tb σ H S) (k : ∀ x y H1, Ex H H1 → R x H1 → S y H1 → ∀ Q : VK, (∀ v H2, Ex H1 H2 → R' v H2 → Q v H2) → r x y H1 Q) : EvR (tOp r ta tb) σ H R' := fun H1 a Q q =>
  ha H1 a _ fun x H2 e2 r2 => hb H2 (a.trans e2) _ fun y H3 e3 r3 => k x y H3 ((a.trans e2).trans e3) (hl _ _ _ e3 r2) r3 Q fun v H4 e4 r4 => q v H4 ((e2.trans e3).trans e4) r4
theorem evr_cb {r : List V → Hp → VK → Prop} {P : List V → Hp → Prop} (h : EvAR tl σ H P) (k : ∀ vs H1, Ex H H1 → P vs H1 → ∀ Q : VK, (∀ v H2, Ex H1 H2 → R v H2 → Q v H2) → r vs H1 Q) : EvR (tCB r tl) σ H R := fun H1 a Q q =>
  h H1 a _ fun vs H2 e2 r2 => k vs H2 (a.trans e2) r2 Q fun v H3 e3 r3 => q v H3 (e2.trans e3) r3

/-! ### promises of pure defs -/
abbrev Pre := List V → Hp → RP → Prop
def spP (pre : Pre) : Sp := fun vs H Q _ => ∃ R, pre vs H R ∧ ∀ v H', Ex H H' → R v H' → Q v H'
/-- an __init__: self is written, all else stays -/
def spI (C : Addr) (pre : Pre) : Sp := fun vs H Q _ => ∃ x dx as R, vs = .ref x :: as ∧ H x = some (.ins C dx []) ∧ pre as H R ∧ ∀ H', (∀ b o, H b = some o → b ≠ x → H' b = some o) → R (.ref x) H' → Q .non H'
theorem evr_call {pre : Pre} {E : XK} {vs : List V} (h : EvA tl σ H vs) (k : ∀ H1, Ex H H1 → pre vs H1 R) : EvR (tCall (spP pre) [] E tl) σ H R := fun H1 a Q q =>
  h H1 a _ fun H2 e2 => ⟨R, by rw [List.append_nil]; exact k H2 (a.trans e2), fun v H3 e3 r => q v H3 (e2.trans e3) r⟩
theorem evr_callR {pre : Pre} {E : XK} {P : List V → Hp → Prop} (h : EvAR tl σ H P) (k : ∀ vs H1, Ex H H1 → P vs H1 → pre vs H1 R) : EvR (tCall (spP pre) [] E tl) σ H R := fun H1 a Q q =>
  h H1 a _ fun vs H2 e2 r2 => ⟨R, by rw [List.append_nil]; exact k vs H2 (a.trans e2) r2, fun v H3 e3 r => q v H3 (e2.trans e3) r⟩
theorem evr_meth {C : Addr} {m : Str} {pre : Pre} {E : XK} {vs : List V} {a dx : Addr} {fs : List (Str × V)} (h0 : Ev ta σ H (.ref a)) (hi : H a = some (.ins C dx fs)) (hm : fs.lookup m = none) (h : EvA tl σ H vs) (k : ∀ H1, Ex H H1 → pre (.ref a :: vs) H1 R) :
    EvR (tMeth C m (spP pre) [] E ta tl) σ H R := fun H1 b Q q =>
  h0 H1 b _ fun H2 e2 => ⟨a, dx, fs, rfl, e2 a _ (b a _ hi), hm, h H2 (b.trans e2) _ fun H3 e3 => ⟨R, by rw [List.append_nil]; exact k H3 ((b.trans e2).trans e3), fun v H4 e4 r => q v H4 ((e2.trans e3).trans e4) r⟩⟩
theorem evr_methR {C : Addr} {m : Str} {pre : Pre} {E : XK} {P : List V → Hp → Prop} {a dx : Addr} {fs : List (Str × V)} (h0 : Ev ta σ H (.ref a)) (hi : H a = some (.ins C dx fs)) (hm : fs.lookup m = none) (h : EvAR tl σ H P) (k : ∀ vs H1, Ex H H1 → P vs H1 → pre (.ref a :: vs) H1 R) :
    EvR (tMeth C m (spP pre) [] E ta tl) σ H R := fun H1 b Q q =>
  h0 H1 b _ fun H2 e2 => ⟨a, dx, fs, rfl, e2 a _ (b a _ hi), hm, h H2 (b.trans e2) _ fun vs H3 e3 r3 => ⟨R, by rw [List.append_nil]; exact k vs H3 ((b.trans e2).trans e3) r3, fun v H4 e4 r => q v H4 ((e2.trans e3).trans e4) r⟩⟩
theorem evr_makeR {C : Addr} {pre : Pre} {E : XK} {P : List V → Hp → Prop} (h : EvAR tl σ H P) (k : ∀ vs H1, Ex H H1 → (∀ H2, Ex H1 H2 → P vs H1 → pre vs H2 R)) : EvR (tMake C (spI C pre) [] E tl) σ H R := fun H1 a Q q =>
  h H1 a _ fun vs H2 e2 r2 x dx nx ndx ne => by
    have e3 : Ex H2 (upd (upd H2 dx (.own x)) x (.ins C dx [])) := fun b o e => by rw [upd_ne (ne_of_none e nx), upd_ne (ne_of_none e ndx)]; exact e
    exact ⟨x, dx, vs, R, by rw [List.append_nil], upd_same, k vs H2 (a.trans e2) _ e3 r2, fun H' hb r => ⟨rfl, q _ H' (e2.trans fun b o e => hb b o (e3 b o e) (ne_of_none e nx)) r⟩⟩
theorem evr_make {C : Addr} {pre : Pre} {E : XK} {vs : List V} (h : EvA tl σ H vs) (k : ∀ H1, Ex H H1 → pre vs H1 R) : EvR (tMake C (spI C pre) [] E tl) σ H R :=
  evr_makeR (ear_ea h) fun us H1 e1 H2 e2 hu => by rw [hu]; exact k H2 (e1.trans e2)

/-! ### a field, a tuple, a list -/
theorem ev_fld {K : PySem.W.Frag} {f : Str} {a C dx : Addr} {fs : List (Str × V)} (h : Ev ta σ H (.ref a)) (hi : H a = some (.ins C dx fs)) (c : Cls K C) (n : NoAttr K C f) (hf : fs.lookup f = some v) : Ev (tFld K ta f) σ H v := fun H1 b Q q =>
  h H1 b _ fun H2 e2 => ⟨a, C, dx, fs, v, rfl, e2 a _ (b a _ hi), c, n, hf, q H2 e2⟩
theorem evr_tup {P : List V → Hp → Prop} (h : EvAR tl σ H P) (hp : ∀ vs A B, Ex A B → P vs A → P vs B) (hn : ∀ vs H1, P vs H1 → vs.length ≤ 100000) : EvR (tTup tl) σ H (fun u H' => ∃ p vs, u = .ref p ∧ H' p = some (.tup vs) ∧ P vs H') := fun H1 a Q q =>
  h H1 a _ fun vs H2 e2 r2 => ⟨sz_of (hn vs H2 r2), fun p np => q _ _ (e2.trans (Ex.new np)) ⟨p, vs, rfl, upd_same, hp vs _ _ (Ex.new np) r2⟩⟩
theorem evr_lst {P : List V → Hp → Prop} (h : EvAR tl σ H P) (hp : ∀ vs A B, Ex A B → P vs A → P vs B) (hn : ∀ vs H1, P vs H1 → vs.length ≤ 100000) : EvR (tLst tl) σ H (fun u H' => ∃ p vs, u = .ref p ∧ H' p = some (.lst vs) ∧ P vs H') := fun H1 a Q q =>
  h H1 a _ fun vs H2 e2 r2 => ⟨sz_of (hn vs H2 r2), fun p np => q _ _ (e2.trans (Ex.new np)) ⟨p, vs, rfl, upd_same, hp vs _ _ (Ex.new np) r2⟩⟩

/-! ### statements -/
theorem s_retR (h : EvR te σ H R) (k : ∀ v H1, Ex H H1 → R v H1 → D.rt v H1) : tRet te D σ H := h H (Ex.refl H) _ k
theorem s_asgR (h : EvR te σ H R) (k : ∀ v H1, Ex H H1 → R v H1 → D.nx (σ.set i (some v)) H1) : tAsg te (gName i) D σ H := h H (Ex.refl H) _ k
theorem q_asgR (h : EvR te σ H R) (k : ∀ v H1, Ex H H1 → R v H1 → tz D (σ.set i (some v)) H1) : tSeq (tAsg te (gName i)) tz D σ H := h H (Ex.refl H) _ k
theorem q_dropR (h : EvR te σ H R) (k : ∀ v H1, Ex H H1 → R v H1 → tz D σ H1) : tSeq (tDrop te) tz D σ H := h H (Ex.refl H) _ k
theorem s_dropR (h : EvR te σ H R) (k : ∀ v H1, Ex H H1 → R v H1 → D.nx σ H1) : tDrop te D σ H := h H (Ex.refl H) _ k
/-- l.append(e), the item by its word -/
theorem s_appR {K : PySem.W.Frag} {l : Addr} {xs : List V} (hl : H l = some (.lst xs)) (ha : Ev ta σ H (.ref l)) (h : EvR te σ H R) (hz : xs.length < 100000) (k : ∀ v H1, Ex H H1 → R v H1 → D.nx σ (upd H1 l (.lst (xs ++ [v])))) :
    tDrop (tBM K "list" rAppend ta (tCons te tNil)) D σ H := ha H (Ex.refl H) _ fun H1 e1 =>
  ⟨Or.inl ⟨rfl, xs, sq_of (e1 l _ hl)⟩, h H1 e1 _ fun v H2 e2 r => ⟨l, xs, v, rfl, rfl, e2 l _ (e1 l _ hl), sz_lt hz, k v H2 (e1.trans e2) r⟩⟩
theorem q_appR {K : PySem.W.Frag} {l : Addr} {xs : List V} (hl : H l = some (.lst xs)) (ha : Ev ta σ H (.ref l)) (h : EvR te σ H R) (hz : xs.length < 100000) (k : ∀ v H1, Ex H H1 → R v H1 → tz D σ (upd H1 l (.lst (xs ++ [v])))) :
    tSeq (tDrop (tBM K "list" rAppend ta (tCons te tNil))) tz D σ H := s_appR (D := { D with nx := tz D }) hl ha h hz k
end

/-! ### lists of things known by a word -/
abbrev RL (α : Type) := V → α → Hp → Prop
def LastsL {α : Type} (R : RL α) : Prop := ∀ v a H H', Ex H H' → R v a H → R v a H'
def Are {α : Type} (R : RL α) (H : Hp) (xs : List V) (as : List α) : Prop := Paired (fun v a => R v a H) xs as
theorem Are.mono {α : Type} {R : RL α} (l : LastsL R) {H H' : Hp} {xs : List V} {as : List α} (e : Ex H H') (h : Are R H xs as) : Are R H' xs as := Paired.mapP h fun v a r => l v a H H' e r
theorem Are.length {α : Type} {R : RL α} {H : Hp} {xs : List V} {as : List α} (h : Are R H xs as) : xs.length = as.length := Paired.length h
theorem Are.snoc {α : Type} {R : RL α} {H : Hp} {x : V} {a : α} (r : R x a H) : ∀ {xs : List V} {as : List α}, Are R H xs as → Are R H (xs ++ [x]) (as ++ [a])
  | _, _, .nil => .cons r .nil
  | _, _, .cons q t => .cons q (Are.snoc r t)
theorem Are.app {α : Type} {R : RL α} {H : Hp} : ∀ {xs ys : List V} {as bs : List α}, Are R H xs as → Are R H ys bs → Are R H (xs ++ ys) (as ++ bs)
  | _, _, _, _, .nil, t => t
  | _, _, _, _, .cons q s, t => .cons q (Are.app s t)
theorem Are.get {α : Type} {R : RL α} {H : Hp} : ∀ {xs : List V} {as : List α} {i : Nat} {x : V}, Are R H xs as → xs[i]? = some x → ∃ a, as[i]? = some a ∧ R x a H
  | _, _, _, _, .nil, e => by simp at e
  | _, _, 0, _, .cons r _, e => by simp at e; subst e; exact ⟨_, rfl, r⟩
  | _, _, i + 1, x, .cons _ t, e => by
    obtain ⟨a, h1, h2⟩ := Are.get (i := i) (x := x) t (by simpa using e)
    exact ⟨a, by simpa using h1, h2⟩
theorem Are.at {α : Type} {R : RL α} {H : Hp} : ∀ {xs : List V} {as : List α} {i : Nat} {a : α}, Are R H xs as → as[i]? = some a → ∃ x, xs[i]? = some x ∧ R x a H
  | _, _, _, _, .nil, e => by simp at e
  | _, _, 0, _, .cons r _, e => by simp at e; subst e; exact ⟨_, rfl, r⟩
  | _, _, i + 1, x, .cons _ t, e => by
    obtain ⟨a, h1, h2⟩ := Are.at (i := i) (a := x) t (by simpa using e)
    exact ⟨a, by simpa using h1, h2⟩
def RInt : RL Int := fun v n _ => v = .int n
def RStr : RL Str := fun v n _ => v = .str n
theorem rint_lasts : LastsL RInt := fun _ _ _ _ _ h => h
theorem rstr_lasts : LastsL RStr := fun _ _ _ _ _ h => h
theorem are_int {H : Hp} : ∀ {xs : List V} {ns : List Int}, Are RInt H xs ns → xs = ns.map V.int
  | _, _, .nil => rfl
  | _, _, .cons r t => by
    have e : _ = V.int _ := r
    rw [e, are_int t]; rfl
theorem int_are {H : Hp} : ∀ ns : List Int, Are RInt H (ns.map V.int) ns
  | [] => .nil
  | n :: ns => .cons rfl (int_are ns)
theorem are_str {H : Hp} : ∀ {xs : List V} {ns : List Str}, Are RStr H xs ns → xs = ns.map V.str
  | _, _, .nil => rfl
  | _, _, .cons r t => by
    have e : _ = V.str _ := r
    rw [e, are_str t]; rfl
theorem str_are {H : Hp} : ∀ ns : List Str, Are RStr H (ns.map V.str) ns
  | [] => .nil
  | n :: ns => .cons rfl (str_are ns)
/-- a new list of such -/
def NewL {α : Type} (R : RL α) (as : List α) : RP := fun u H => ∃ p xs, u = .ref p ∧ H p = some (.lst xs) ∧ Are R H xs as

/-! ### comprehensions: the source read, each item by its word -/
section
variable {K : PySem.W.Frag} {α β : Type} {σ : L2.St} {H : Hp} {wi : TI} {g : TG} {tt : TT} {te : TE} {vs : List Nat} {RA : RL α} {RB : RL β}
def CompInv (RB : RL β) (f : α → Bool) (h : α → β) (as : List α) (H1 : Hp) (D : Addr) (i : Nat) (H' : Hp) : Prop := H1 D = none ∧ Ex H1 H' ∧ ∃ ys, H' D = some (.lst ys) ∧ Are RB H' ys (((as.take i).filter f).map h)
/-- a word that lasts, and that a list's growing does not touch -/
structure Lst (R : RL β) : Prop where
  l : LastsL R
  m : ∀ v a (A B : Hp) (D : Addr) (xs : List V), A D = some (.lst xs) → (∀ b o, A b = some o → b ≠ D → B b = some o) → R v a A → R v a B
theorem comp_turn (lB : Lst RB) {as : List α} {f : α → Bool} {h : α → β} {H1 : Hp} {D : Addr} {i : Nat} {a : α} {σ2 : L2.St} {H' : Hp} (hi : as[i]? = some a) (hn : as.length ≤ 40000) (P : CompInv RB f h as H1 D i H')
    (ht : EvT tt σ2 H1 (f a)) (he : f a = true → EvR te σ2 H1 (fun v H2 => RB v (h a) H2)) :
    tt σ2 H' fun b H3 => if b = true then te σ2 H3 fun y H4 => ∃ acc, H4 D = some (.lst acc) ∧ acc.length < sizeLine ∧ CompInv RB f h as H1 D (i + 1) (upd H4 D (.lst (acc ++ [y]))) else CompInv RB f h as H1 D (i + 1) H3 := by
  obtain ⟨p1, p2, ys, p3, p4⟩ := P
  have lt : i < as.length := (List.getElem?_eq_some_iff.mp hi).1
  have tk : as.take (i + 1) = as.take i ++ [a] := by rw [List.take_add_one, hi]; rfl
  refine ht H' p2 _ fun H3 e3 => ?_
  cases hf : f a with
  | false =>
    show CompInv RB f h as H1 D (i + 1) H3
    refine ⟨p1, p2.trans e3, ys, e3 D _ p3, ?_⟩
    rw [tk, List.filter_append, List.filter_cons, if_neg (by rw [hf]; decide)]
    simpa using p4.mono lB.l e3
  | true =>
    show te σ2 H3 _
    refine he hf H3 (p2.trans e3) _ fun y H4 e4 r4 => ⟨ys, e4 D _ (e3 D _ p3), sz_lt ?_, p1, Ex.mut ((p2.trans e3).trans e4) p1, ys ++ [y], upd_same, ?_⟩
    · rw [p4.length, List.length_map]
      have h1 := List.length_filter_le f (as.take i)
      have h2 : (as.take i).length ≤ as.length := by rw [List.length_take]; omega
      omega
    · rw [tk, List.filter_append, List.filter_cons, if_pos hf, List.map_append]
      have ch : ∀ v b, RB v b H4 → RB v b (upd H4 D (.lst (ys ++ [y]))) := fun v b r => lB.m v b H4 _ D ys (e4 D _ (e3 D _ p3)) (fun b o e nb => by rw [upd_ne nb]; exact e) r
      exact Are.snoc (ch _ _ r4) (Paired.mapP (p4.mono lB.l (e3.trans e4)) fun v b r => ch v b r)
theorem comp_end (lB : Lst RB) {as : List α} {f : α → Bool} {h : α → β} {H0 H1 : Hp} {D : Addr} {H' : Hp} (e : Ex H0 H1) {n : Nat} (hn : n = as.length) (P : CompInv RB f h as H1 D n H') {Q : VK} (q : ∀ v H2, Ex H0 H2 → NewL RB ((as.filter f).map h) v H2 → Q v H2) : Q (.ref D) H' := by
  obtain ⟨p1, p2, ys, p3, p4⟩ := P
  subst hn
  rw [List.take_length] at p4
  exact q _ _ (e.trans p2) ⟨D, ys, rfl, p3, p4⟩
theorem comp_start {as : List α} {f : α → Bool} {h : α → β} {H1 : Hp} {D : Addr} (hD : H1 D = none) : CompInv RB f h as H1 D 0 (upd H1 D (.lst [])) := ⟨hD, Ex.new hD, [], upd_same, .nil⟩
variable {tl : TE} {a : Addr} {xs : List V} {as : List α} {f : α → Bool} {h : α → β} {s2 : V → L2.St}
theorem evr_lcT (lA : LastsL RA) (lB : Lst RB) (src : EvR tl σ H (fun u H' => ∃ a xs, u = .ref a ∧ SqT K H' a xs ∧ Are RA H' xs as)) (hn : as.length ≤ 40000)
    (hg : ∀ x a H1, RA x a H1 → ∀ k : L2.St → Hp → Prop, k (s2 x) H1 → g x (wipe σ vs) H1 k) (hw : ∀ x, wipe (s2 x) vs = wipe σ vs)
    (ht : ∀ x a H1, Ex H H1 → a ∈ as → RA x a H1 → EvT tt (s2 x) H1 (f a)) (he : ∀ x a H1, Ex H H1 → a ∈ as → RA x a H1 → f a = true → EvR te (s2 x) H1 (fun v H2 => RB v (h a) H2)) :
    EvR (tLc (iTup K tl) g tt te vs) σ H (NewL RB ((as.filter f).map h)) := fun H0 e Q q => src H0 e _ fun v H1 e1 ⟨a, xs, ev, sq, ar⟩ => by
  subst ev
  refine ⟨a, rfl, ⟨xs, sq⟩, fun D hD => lc_tup (xs := xs) (CompInv RB f h as H1 D) (comp_start hD) (fun i H' _ p => ex_t p.2.1 sq) (fun i x H' hi p => ?_) (fun H' p => comp_end lB e1 ar.length p q)⟩
  obtain ⟨b, hb, rb⟩ := ar.get hi
  have mb := List.mem_of_getElem? hb
  have lt : as.length ≤ 40000 := hn
  exact hg x b H' (lA x b H1 H' p.2.1 rb) _ ⟨hw x, comp_turn lB hb hn p (ht x b H1 (e.trans e1) mb rb) (he x b H1 (e.trans e1) mb rb)⟩
theorem evr_lcL (lA : LastsL RA) (lB : Lst RB) (src : EvR tl σ H (fun u H' => ∃ a xs, u = .ref a ∧ SqL K H' a xs ∧ Are RA H' xs as)) (hn : as.length ≤ 40000)
    (hg : ∀ x a H1, RA x a H1 → ∀ k : L2.St → Hp → Prop, k (s2 x) H1 → g x (wipe σ vs) H1 k) (hw : ∀ x, wipe (s2 x) vs = wipe σ vs)
    (ht : ∀ x a H1, Ex H H1 → a ∈ as → RA x a H1 → EvT tt (s2 x) H1 (f a)) (he : ∀ x a H1, Ex H H1 → a ∈ as → RA x a H1 → f a = true → EvR te (s2 x) H1 (fun v H2 => RB v (h a) H2)) :
    EvR (tLc (iList K tl) g tt te vs) σ H (NewL RB ((as.filter f).map h)) := fun H0 e Q q => src H0 e _ fun v H1 e1 ⟨a, xs, ev, sq, ar⟩ => by
  subst ev
  refine ⟨a, rfl, ⟨xs, sq⟩, fun D hD => lc_list (xs := xs) (CompInv RB f h as H1 D) (comp_start hD) (fun i H' _ p => ex_l p.2.1 sq) (fun i x H' hi p => ?_) (fun H' p => comp_end lB e1 ar.length p q)⟩
  obtain ⟨b, hb, rb⟩ := ar.get hi
  have mb := List.mem_of_getElem? hb
  exact hg x b H' (lA x b H1 H' p.2.1 rb) _ ⟨hw x, comp_turn lB hb hn p (ht x b H1 (e.trans e1) mb rb) (he x b H1 (e.trans e1) mb rb)⟩
theorem evr_lcR1 {ta : TA} {n : Int} {h : Int → β} (lB : Lst RB) (src : EvA ta σ H [.int n]) (hn : 0 ≤ n ∧ n ≤ 40000)
    (hg : ∀ x H1, ∀ k : L2.St → Hp → Prop, k (s2 x) H1 → g x (wipe σ vs) H1 k) (hw : ∀ x, wipe (s2 x) vs = wipe σ vs) (ht : ∀ x H1, EvT tt (s2 x) H1 true)
    (he : ∀ i H1, Ex H H1 → 0 ≤ i → i < n → EvR te (s2 (.int i)) H1 (fun v H2 => RB v (h i) H2)) :
    EvR (tLc (iRng1 ta) g tt te vs) σ H (NewL RB (((List.range n.toNat).map fun i : Nat => (i : Int)).map h)) := fun H0 e Q q => src H0 e _ fun H1 e1 => by
  have fl : (((List.range n.toNat).map fun i : Nat => (i : Int)).filter fun _ => true) = ((List.range n.toNat).map fun i : Nat => (i : Int)) := List.filter_eq_self.mpr fun _ _ => rfl
  refine ⟨n, rfl, by omega, by omega, fun D hD => lc_range (lo := 0) (n := n.toNat) (CompInv RB (fun _ => true) h ((List.range n.toNat).map fun i : Nat => (i : Int)) H1 D) (comp_start hD) (fun i H' hi p => ?_) (fun H' p => ?_)⟩
  · rw [Int.zero_add]
    refine hg _ H' _ ⟨hw _, comp_turn lB (a := (i : Int)) (by rw [List.getElem?_map, List.getElem?_range hi]; rfl) (by rw [List.length_map, List.length_range]; omega) p (ht _ H1) fun _ => he i H1 (e.trans e1) (by omega) (by omega)⟩
  · refine comp_end lB e1 (by rw [List.length_map, List.length_range]) p ?_
    rw [fl]; exact q
theorem et_yes : EvT tYes σ H true := fun H1 _ _ q => q H1 (Ex.refl H1)
end
theorem rint_lst : Lst RInt := ⟨rint_lasts, fun _ _ _ _ _ _ _ _ h => h⟩
theorem rstr_lst : Lst RStr := ⟨rstr_lasts, fun _ _ _ _ _ _ _ _ h => h⟩
end Fs

set_option Elab.async false
set_option linter.all false
set_option maxRecDepth 100000
set_option maxHeartbeats 4000000
/-! what is promised -/
namespace Fs
open PySem PySem.Spec PyProof.Rows L2 Evl

/-- a lambda's words, its captured names, its promise -/
structure Lm where
  L : LKind
  b : Expr
  ps : List Str
  fr : List Str
  sp : List V → Sp
/-- what the promises speak of: the classes' places, the lambda of by_counts, the tables -/
structure Pm where
  P : Program
  w : World
  K : PySem.W.Frag
  CP : Addr
  CK : Addr
  CR : Addr
  CC : Addr
  CA : Addr
  T : List (Addr × Str)
  B : Lm

/-! ### names of readings -/
abbrev rAddI : R2 := rI0 fun i j => .int (i + j)
abbrev rSubI : R2 := rI0 fun i j => .int (i - j)
abbrev rMulW : R2 := rI CMulW fun i j => .int (i * j)
abbrev rDivW : R2 := rI CDivW fun i j => .int (i / j)
abbrev rModI : R2 := rI (fun _ j => 0 < j) fun i j => .int (i % j)
abbrev rPowI : R2 := rI CPow fun i j => .int (i ^ j.toNat)
abbrev rNegI : V → Hp → VK → Prop := rU fun i => .int (-i)
abbrev rLtI : R2 := rI0 fun i j => .bl (decide (i < j))
abbrev rLeI : R2 := rI0 fun i j => .bl (decide (i ≤ j))
abbrev rGtI : R2 := rI0 fun i j => .bl (decide (j < i))
abbrev rGeI : R2 := rI0 fun i j => .bl (decide (j ≤ i))
abbrev rCatS : R2 := fun x y H Q => ∃ i j, x = .str i ∧ y = .str j ∧ i.length + j.length ≤ sizeLine ∧ Q (.str (i ++ j)) H
abbrev rIsNo : R2 := fun x y H Q => y = .non ∧ Q (.bl (decide (x = .non))) H
abbrev rNotNo : R2 := fun x y H Q => y = .non ∧ Q (.bl (!decide (x = .non))) H
abbrev rInSign : R2 := fun x y H Q => ∃ (c : Nat) (z : Str), x = .str ⟨#[c]⟩ ∧ y = .str z ∧ Q (.bl (decide (c ∈ z.cps.toList))) H
abbrev rNotInSign : R2 := fun x y H Q => ∃ (c : Nat) (z : Str), x = .str ⟨#[c]⟩ ∧ y = .str z ∧ Q (.bl (!decide (c ∈ z.cps.toList))) H
abbrev rLenStr : List V → Hp → VK → Prop := fun xs H Q => ∃ z, xs = [.str z] ∧ z.length ≤ sizeLine ∧ Q (.int z.length) H
abbrev rLenD : List V → Hp → VK → Prop := fun xs H Q => ∃ a kvs, xs = [V.ref a] ∧ H a = some (.dK kvs) ∧ Q (.int kvs.length) H
abbrev rSumV0 : List V → Hp → VK → Prop := fun xs H Q => ∃ p d, xs = [V.ref p] ∧ H p = some (VwO p d) ∧ H d = some (.dK []) ∧ Q (.int 0) H
abbrev rMin2 : List V → Hp → VK → Prop := fun xs H Q => ∃ i j, xs = [.int i, .int j] ∧ Q (.int (if j < i then j else i)) H
abbrev rDictD : List V → Hp → VK → Prop := fun xs H Q => ∃ (a : Addr) (kvs : List (Key × V)), xs = [.ref a] ∧ Rd H a (.dK kvs) ∧ ∀ p, H p = none → Q (.ref p) (upd H p (.dK kvs))
abbrev rInt1 : List V → Hp → VK → Prop := fun xs H Q => (∃ i, xs = [.int i] ∧ Q (.int i) H) ∨ ∃ k, xs = [.bl k] ∧ Q (.int (if k then 1 else 0)) H
abbrev rTupleV : List V → Hp → VK → Prop := fun xs H Q => ∃ p d kvs, xs = [V.ref p] ∧ H p = some (VwO p d) ∧ H d = some (.dK kvs) ∧ ∀ q, H q = none → Q (.ref q) (upd H q (.tup (kvs.map (·.2))))
abbrev rListV : List V → Hp → VK → Prop := fun xs H Q => ∃ p d kvs, xs = [V.ref p] ∧ H p = some (VwO p d) ∧ H d = some (.dK kvs) ∧ ∀ q, H q = none → Q (.ref q) (upd H q (.lst (kvs.map (·.2))))
abbrev rTupleOf (K : PySem.W.Frag) : List V → Hp → VK → Prop := fun xs H Q => ∃ p ys, xs = [.ref p] ∧ ((SqL K H p ys ∧ ∀ l, H l = none → Q (.ref l) (upd H l (.tup ys))) ∨ (SqT K H p ys ∧ Q (.ref p) H))
abbrev rJoin (K : PySem.W.Frag) : V → List V → Hp → VK → Prop := fun x xs H Q => ∃ a p, ∃ ys : List Str, x = .str a ∧ xs = [.ref p] ∧ (SqL K H p (ys.map V.str) ∨ SqT K H p (ys.map V.str)) ∧ (ys.map (·.length)).sum + ys.length * a.length ≤ 16777216 ∧ Q (.str (Txt.join a ys)) H

/-! ### rows -/
abbrev Row := Fm.Rw Str
def rowV (r : Row) : List V := [.str r.n, .int r.f, .int r.l, .int r.c, .int r.r]
def RRow : RL Row := fun v r H => ∃ p, v = .ref p ∧ H p = some (.tup (rowV r))
def RPair : RL (Int × Int) := fun v r H => ∃ p, v = .ref p ∧ H p = some (.tup [.int r.1, .int r.2])
def RQuad : RL (Int × Int × Int × Int) := fun v r H => ∃ p, v = .ref p ∧ H p = some (.tup [.int r.1, .int r.2.1, .int r.2.2.1, .int r.2.2.2])
def RTurn : RL (Int × Str) := fun v r H => ∃ p, v = .ref p ∧ H p = some (.tup [.int r.1, .str r.2])
theorem tup_m {A B : Hp} {D p : Addr} {xs ys : List V} (hD : A D = some (.lst xs)) (k : ∀ b o, A b = some o → b ≠ D → B b = some o) (h : A p = some (.tup ys)) : B p = some (.tup ys) :=
  k p _ h fun e => by rw [e, hD] at h; cases h
theorem rrow_lst : Lst RRow := ⟨fun v r H H' e ⟨p, a, b⟩ => ⟨p, a, e _ _ b⟩, fun v r A B D xs hD k ⟨p, a, b⟩ => ⟨p, a, tup_m hD k b⟩⟩
theorem rpair_lst : Lst RPair := ⟨fun v r H H' e ⟨p, a, b⟩ => ⟨p, a, e _ _ b⟩, fun v r A B D xs hD k ⟨p, a, b⟩ => ⟨p, a, tup_m hD k b⟩⟩
theorem rquad_lst : Lst RQuad := ⟨fun v r H H' e ⟨p, a, b⟩ => ⟨p, a, e _ _ b⟩, fun v r A B D xs hD k ⟨p, a, b⟩ => ⟨p, a, tup_m hD k b⟩⟩
theorem rturn_lst : Lst RTurn := ⟨fun v r H H' e ⟨p, a, b⟩ => ⟨p, a, e _ _ b⟩, fun v r A B D xs hD k ⟨p, a, b⟩ => ⟨p, a, tup_m hD k b⟩⟩
abbrev letters : Str := "abcdefghijklmnopqrstuvwxyz"
abbrev figures : Str := "0123456789"
/-- a name that Pieces takes -/
def Nm (z : Str) : Prop := ∃ c cs, z.cps.toList = c :: cs ∧ cs.length ≤ 7 ∧ c ∈ letters.cps.toList ∧ ∀ d ∈ c :: cs, d ∈ letters.cps.toList ++ figures.cps.toList
structure Rws (rs : List Row) : Prop where
  ok : Fm.Oks rs
  nd : (rs.map (·.n)).Nodup
  len : rs.length ≤ 30
  nm : ∀ r ∈ rs, Nm r.n
def keyed (rs : List Row) (vs : List V) : List (Key × V) := (rs.zip vs).map fun q => (Sum.inr q.1.n, q.2)
def RPc (p : Pm) : RL (List Row) := fun v rs H => Rws rs ∧ ∃ a dx d vs, v = .ref a ∧ H a = some (.ins p.CP dx [("fives", .ref d)]) ∧ H d = some (.dK (keyed rs vs)) ∧ Are RRow H vs rs
theorem rpc_lst (p : Pm) : Lst (RPc p) :=
  ⟨fun v rs H H' e ⟨w, a, dx, d, vs, h1, h2, h3, h4⟩ => ⟨w, a, dx, d, vs, h1, e _ _ h2, e _ _ h3, h4.mono rrow_lst.l e⟩, fun v rs A B D xs hD k ⟨w, a, dx, d, vs, h1, h2, h3, h4⟩ =>
    ⟨w, a, dx, d, vs, h1, k _ _ h2 (fun e => by rw [e, hD] at h2; cases h2), k _ _ h3 (fun e => by rw [e, hD] at h3; cases h3), Paired.mapP h4 fun v r q => rrow_lst.m v r A B D xs hD k q⟩⟩
/-- a tuple of such -/
def NewT {α : Type} (R : RL α) (as : List α) : RP := fun u H => ∃ p xs, u = .ref p ∧ H p = some (.tup xs) ∧ Are R H xs as
/-- a tracked list of such -/
def LsAt {α : Type} (R : RL α) (v : V) (as : List α) (H : Hp) : Prop := ∃ p xs, v = .ref p ∧ H p = some (.lst xs) ∧ Are R H xs as
abbrev Is (v : V) : RP := fun u _ => u = v
/-- a promise whose answer is a new object -/
def spN (pre : Pre) : Sp := fun vs H Q _ => ∃ R, pre vs H R ∧ ∀ q H', H q = none → Ex H H' → R (.ref q) H' → Q (.ref q) H'
def St (a b : Int) : Prop := 0 ≤ a ∧ a ≤ 200 ∧ a - 1 ≤ b ∧ b ≤ 199
def K3 (k : Int) : Prop := 0 ≤ k ∧ k ≤ 300

section
variable (p : Pm)
def sp_is_whole (p : Pm) : Sp := spP fun vs _ R => ∃ n, vs = [.int n] ∧ R = Is (.bl true)
def sp_is_within (p : Pm) : Sp := spP fun vs _ R => ∃ n a b, vs = [.int n, .int a, .int b] ∧ R = Is (.bl (decide (a ≤ n) && decide (n ≤ b)))
def sp_is_name (p : Pm) : Sp := spP fun vs _ R => ∃ z, vs = [.str z] ∧ Nm z ∧ R = Is (.bl true)
def sp_is_stretch (p : Pm) : Sp := spP fun vs H R => ∃ v q, vs = [v] ∧ RPair v q H ∧ St q.1 q.2 ∧ R = Is (.bl true)
def sp_need_stretch (p : Pm) : Sp := spP fun vs H R => ∃ v q, vs = [v] ∧ RPair v q H ∧ St q.1 q.2 ∧ R = Is .non
def sp_need_failings (p : Pm) : Sp := spP fun vs _ R => ∃ k, vs = [.int k] ∧ K3 k ∧ R = Is .non
def sp_room (p : Pm) : Sp := spP fun vs H R => ∃ v q, vs = [v] ∧ RPair v q H ∧ St q.1 q.2 ∧ R = Is (.int (q.2 - q.1 + 1))
def sp_window_fault (p : Pm) : Sp := spP fun vs H R => ∃ v r, vs = [v] ∧ RRow v r H ∧ Fm.Ok r ∧ R = Is .non
def sp_row_fault (p : Pm) : Sp := spP fun vs H R => ∃ d kvs v r, vs = [.ref d, v] ∧ H d = some (.dK kvs) ∧ RRow v r H ∧ Fm.Ok r ∧ Nm r.n ∧ valV kvs (Sum.inr r.n) = none ∧ R = Is .non
def sp_five_of (p : Pm) : Sp := spP fun vs H R => ∃ v r, vs = [v] ∧ RRow v r H ∧ R = Is v
def sp_five_rows (p : Pm) : Sp := spP fun vs H R => ∃ l xs rs, vs = [.ref l] ∧ H l = some (.lst xs) ∧ Are RRow H xs rs ∧ Rws rs ∧ R = fun u H' => ∃ d, u = .ref d ∧ H' d = some (.dK (keyed rs xs))
def sp_Pieces_init (p : Pm) : Sp := spI p.CP fun vs H R => ∃ l xs rs, vs = [.ref l] ∧ H l = some (.lst xs) ∧ Are RRow H xs rs ∧ Rws rs ∧ R = fun u => RPc p u rs
def sp_Pieces_told (p : Pm) : Sp := spP fun vs H R => ∃ v rs, vs = [v] ∧ RPc p v rs H ∧ R = NewT RRow rs
def sp_Pieces_names (p : Pm) : Sp := spN fun vs H R => ∃ v rs, vs = [v] ∧ RPc p v rs H ∧ R = NewL RStr (rs.map (·.n))
def sp_Pieces_has (p : Pm) : Sp := spP fun vs H R => ∃ v rs z, vs = [v, .str z] ∧ RPc p v rs H ∧ R = Is (.bl (decide (z ∈ rs.map (·.n))))
def sp_Pieces_row (p : Pm) : Sp := spP fun vs H R => ∃ v rs r, vs = [v, .str r.n] ∧ RPc p v rs H ∧ r ∈ rs ∧ R = fun u H' => RRow u r H'
def sp_Pieces_with_row (p : Pm) : Sp := spP fun vs H R => ∃ v rs y r, vs = [v, y] ∧ RPc p v rs H ∧ RRow y r H ∧ Rws (rs ++ [r]) ∧ R = fun u => RPc p u (rs ++ [r])
def sp_Pieces_without (p : Pm) : Sp := spP fun vs H R => ∃ v rs r, vs = [v, .str r.n] ∧ RPc p v rs H ∧ r ∈ rs ∧ R = fun u => RPc p u (rs.filter fun q => decide (q.n ≠ r.n))
def sp_Pieces_put_at (p : Pm) : Sp := spP fun vs H R => ∃ v rs z y r, vs = [v, .str z, y] ∧ RPc p v rs H ∧ RRow y r H ∧ Rws (rs.map fun q => if q.n = z then r else q) ∧ R = fun u => RPc p u (rs.map fun q => if q.n = z then r else q)
def withLast (rs : List Row) (z : Str) (l : Int) : List Row := rs.map fun q => if q.n = z then { q with l := l } else q
def sp_Pieces_with_last (p : Pm) : Sp := spP fun vs H R => ∃ v rs r l, vs = [v, .str r.n, .int l] ∧ RPc p v rs H ∧ r ∈ rs ∧ Rws (withLast rs r.n l) ∧ R = fun u => RPc p u (withLast rs r.n l)
def sp_rows_within (p : Pm) : Sp := spP fun vs H R => ∃ v rs s q, vs = [v, s] ∧ RPc p v rs H ∧ RPair s q H ∧ St q.1 q.2 ∧ R = NewL RRow (Fm.within rs q.1 q.2)
def sp_lefts (p : Pm) : Sp := spP fun vs H R => ∃ v rs s q, vs = [v, s] ∧ RPc p v rs H ∧ RPair s q H ∧ St q.1 q.2 ∧ R = Is (.int (Fm.lefts rs q.1 q.2))
def sp_greatest_length (p : Pm) : Sp := spP fun vs H R => ∃ v rs s q, vs = [v, s] ∧ RPc p v rs H ∧ RPair s q H ∧ St q.1 q.2 ∧ R = Is (.int (Fm.gl rs q.1 q.2))
def sp_longest (p : Pm) : Sp := spP fun vs H R => ∃ v rs s q, vs = [v, s] ∧ RPc p v rs H ∧ RPair s q H ∧ St q.1 q.2 ∧ Fm.within rs q.1 q.2 ≠ [] ∧ R = fun u _ => ∃ r ∈ rs, r.c = Fm.gl rs q.1 q.2 ∧ u = .str r.n
def sp_need (p : Pm) : Sp := spP fun vs H R => ∃ v rs s q k, vs = [v, s, .int k] ∧ RPc p v rs H ∧ RPair s q H ∧ St q.1 q.2 ∧ K3 k ∧ R = Is (.int (Fm.need rs q.1 q.2 k))
def sp_stretches (p : Pm) : Sp := spN fun vs H R => ∃ v rs, vs = [v] ∧ RPc p v rs H ∧ R = NewL RPair (Fm.stretches rs)
def tabl (rs : List Row) (k : Int) : List (Int × Int × Int × Int) := (Fm.stretches rs).map fun q => (q.1, q.2, Fm.need rs q.1 q.2 k, q.2 - q.1 + 1)
def sp_table (p : Pm) : Sp := spP fun vs H R => ∃ v rs k, vs = [v, .int k] ∧ RPc p v rs H ∧ K3 k ∧ R = NewL RQuad (tabl rs k)
def sp_too_short (p : Pm) : Sp := spP fun vs H R => ∃ v rs k, vs = [v, .int k] ∧ RPc p v rs H ∧ K3 k ∧ R = fun u H' => match Fm.tooShort rs k with | none => u = .non | some q => RPair u q H'
def sp_is_kept (p : Pm) : Sp := spP fun vs H R => ∃ v rs k, vs = [v, .int k] ∧ RPc p v rs H ∧ K3 k ∧ R = Is (.bl (Fm.kept rs k))
/-- Paper.__init__, of a Kept or of a Crowd -/
def sp_Paper_init (p : Pm) : Sp := fun vs H Q _ => ∃ C x dx v k, vs = [.ref x, v, .int k] ∧ (C = p.CK ∨ C = p.CC) ∧ H x = some (.ins C dx []) ∧ K3 k ∧
  ∀ H', (∀ b o, H b = some o → b ≠ x → H' b = some o) → H' x = some (.ins C dx [("held", v), ("most", .int k)]) → Q .non H'
def RKept : RL (List Row × Int) := fun v q H => K3 q.2 ∧ ∃ a dx u, v = .ref a ∧ H a = some (.ins p.CK dx [("held", u), ("most", .int q.2)]) ∧ RPc p u q.1 H
theorem rkept_lst : Lst (RKept p) :=
  ⟨fun v q H H' e ⟨w, a, dx, u, h1, h2, h3⟩ => ⟨w, a, dx, u, h1, e _ _ h2, (rpc_lst p).l _ _ _ _ e h3⟩, fun v q A B D xs hD k ⟨w, a, dx, u, h1, h2, h3⟩ => ⟨w, a, dx, u, h1, k _ _ h2 (fun e => by rw [e, hD] at h2; cases h2), (rpc_lst p).m _ _ A B D xs hD k h3⟩⟩
def sp_Kept_init (p : Pm) : Sp := spI p.CK fun vs H R => ∃ u rs k, vs = [u, .int k] ∧ RPc p u rs H ∧ K3 k ∧ R = fun v => RKept p v (rs, k)
def sp_Crowd_init (p : Pm) : Sp := spI p.CC fun vs H R => ∃ u k s q, vs = [u, .int k, s] ∧ K3 k ∧ RPair s q H ∧ St q.1 q.2 ∧ R = fun _ _ => True
def sp_Paper_failings (p : Pm) : Sp := spP fun vs H R => ∃ v q, vs = [v] ∧ RKept p v q H ∧ R = Is (.int q.2)
def sp_Kept_word (p : Pm) : Sp := spP fun vs H R => ∃ v q, vs = [v] ∧ RKept p v q H ∧ R = Is (.str "kept")
def sp_Kept_holds (p : Pm) : Sp := spP fun vs H R => ∃ v q, vs = [v] ∧ RKept p v q H ∧ R = Is (.bl (Fm.kept q.1 q.2))
def sp_quotient (p : Pm) : Sp := spP fun vs H R => ∃ v rs s q, vs = [v, s, .int (Fm.gl rs q.1 q.2)] ∧ RPc p v rs H ∧ RPair s q H ∧ St q.1 q.2 ∧ Fm.within rs q.1 q.2 ≠ [] ∧ R = Is (.int (Fm.quo rs q))
def sp_length_of (p : Pm) : Sp := spP fun vs H R => ∃ v rs r, vs = [v, .str r.n] ∧ RPc p v rs H ∧ r ∈ rs ∧ R = Is (.int r.c)
def Borne (rs : List Row) : RP := fun u _ => ∃ m, u = .int m ∧ m ∈ (Fm.stretches rs).map (Fm.quo rs) ∧ ∀ y ∈ (Fm.stretches rs).map (Fm.quo rs), m ≤ y
def sp_borne (p : Pm) : Sp := spP fun vs H R => ∃ v rs, vs = [v] ∧ RPc p v rs H ∧ rs ≠ [] ∧ R = Borne rs
/-- pieces, failings, a row that isn't let in -/
def Ref (vs : List V) (H : Hp) (rs : List Row) (k : Int) (r : Row) : Prop := ∃ v y, vs = [v, .int k, y] ∧ RPc p v rs H ∧ RRow y r H ∧ Rws (rs ++ [r]) ∧ K3 k ∧ Fm.kept rs k = true ∧ Fm.kept (rs ++ [r]) k = false
def sp_refused_with (p : Pm) : Sp := spP fun vs H R => ∃ rs k r, Ref p vs H rs k r ∧ R = fun u => RPc p u (rs ++ [r])
def sp_fewer (p : Pm) : Sp := spP fun vs H R => ∃ rs k r, Ref p vs H rs k r ∧ R = Borne (rs ++ [r])
/-- all but z, and r -/
def oth (rs : List Row) (r : Row) (z : Str) : List Row := (rs ++ [r]).filter fun q => decide (q.n ≠ z)
def RTold (rs : List Row) (r : Row) (k : Int) : RL Str := fun v z H => ∃ a u, v = .ref a ∧ H a = some (.tup [.str z, u]) ∧ RKept p u (oth rs r z, k) H
theorem rtold_lst (rs : List Row) (r : Row) (k : Int) : Lst (RTold p rs r k) :=
  ⟨fun v z H H' e ⟨a, u, h1, h2, h3⟩ => ⟨a, u, h1, e _ _ h2, (rkept_lst p).l _ _ _ _ e h3⟩, fun v z A B D xs hD kk ⟨a, u, h1, h2, h3⟩ => ⟨a, u, h1, tup_m hD kk h2, (rkept_lst p).m _ _ A B D xs hD kk h3⟩⟩
def due (rs : List Row) (r : Row) (k : Int) : List Str := (rs.map (·.n)).filter fun z => Fm.kept (oth rs r z) k
def sp_instead_of (p : Pm) : Sp := spN fun vs H R => ∃ rs k r, Ref p vs H rs k r ∧ R = NewL (RTold p rs r k) (due rs r k)
def sp_paper_of (p : Pm) : Sp := spP fun vs H R => ∃ v rs k, vs = [v, .int k] ∧ RPc p v rs H ∧ K3 k ∧ Fm.kept rs k = false ∧ R = fun _ _ => True
/-- what least_turns tells: g t, the rows behind the move by t -/
def Least (g : Int → List Row) (k most : Int) (u : V) (H : Hp) : Prop :=
  ((most < 1 ∨ Fm.kept (g most) k = false) ∧ u = .non) ∨ (1 ≤ most ∧ Fm.kept (g most) k = true ∧ ∃ h a x y, u = .ref a ∧ H a = some (.tup [.int h, x, y]) ∧ 1 ≤ h ∧ h ≤ most ∧ Fm.kept (g h) k = true ∧ Fm.kept (g (h - 1)) k = false)
/-- a lambda's promise: moved(t) is the pieces with g t -/
def MovedOk (m : Lm) (ws : List V) (most : Int) (g : Int → List Row) (H : Hp) : Prop := ∀ (H1 : Hp), Ex H H1 → ∀ t, 0 ≤ t → t ≤ most → ∀ Q : VK, (∀ v H2, Ex H1 H2 → RPc p v (g t) H2 → Q v H2) → m.sp ws [.int t] H1 Q E0
def sp_least_turns (p : Pm) (m : Lm) : Sp := fun vs H Q _ => ∃ k f most F ws g, vs = [.int k, .ref f, .int most] ∧ K3 k ∧ most ≤ 200 ∧ Fm.kept (g 0) k = false ∧ (∃ cl c, F = m.L.F cl c) ∧ Clo H f F m.b m.fr ws ∧ MovedOk p m ws most g (dropC H (cellsOf F)) ∧
  ∀ v H', Ex H H' → Least g k most v H' → Q v H'

/-! ### runs -/
/-- an order of work: turns and names -/
def RRun (o : List (Int × Str)) : RP := fun u H => ∃ a dx fs l xs, u = .ref a ∧ H a = some (.ins p.CR dx fs) ∧ fs.lookup ("rows" : Str) = none ∧ fs.lookup ("trodden" : Str) = some (.ref l) ∧ H l = some (.lst xs) ∧ Are RTurn H xs o
def sp_is_counts (p : Pm) : Sp := spP fun vs H R => ∃ v d, vs = [v, .ref d] ∧ H d = some (.dK []) ∧ R = Is (.bl true)
def sp_need_counts (p : Pm) : Sp := spP fun vs H R => ∃ v d, vs = [v, .ref d] ∧ H d = some (.dK []) ∧ R = Is .non
/-- names with what is left, a run under way: to be told behind -/
def sp_Run_rests (p : Pm) : Sp := spP fun vs H R => ∃ v n, vs = [v, .int n] ∧ R = Is (.bl false)
def sp_Run_rows (p : Pm) : Sp := spP fun vs H R => ∃ v o, vs = [v] ∧ RRun p o v H ∧ R = NewL RTurn o
end

/-! ### the law's own -/
section
variable (p : Pm)
/-- the drawing box, n draws left -/
def Box (H : Hp) (q : Addr) (n : Nat) : Prop := ∃ a b c : Int, H q = some (.lst [.int a, .int b, .int c]) ∧ 0 ≤ b ∧ b < 2147483647 ∧ 0 ≤ c ∧ c + n ≤ 1000000
/-- all stays but at q -/
def ExB (q : Addr) (H H' : Hp) : Prop := ∀ b o, H b = some o → b ≠ q → H' b = some o
def sp_law_cell (p : Pm) : Sp := spP fun vs H R => ∃ (a : Addr) (ns : List Int) (k : Int), vs = [.ref a, .int k] ∧ SqL p.K H a (ns.map V.int) ∧ 0 ≤ k ∧ k < 100 ∧ R = fun u _ => ∃ n, u = .int n
def sp_law_box (p : Pm) : Sp := spN fun vs H R => ∃ n, vs = [.int n] ∧ R = fun u H' => ∃ q, u = .ref q ∧ Box H' q 1000000
def sp_law_take (p : Pm) : Sp := fun vs H Q _ => ∃ q m n, vs = [.ref q, .int m] ∧ Box H q (n + 1) ∧ 1 ≤ m ∧ m ≤ 1000 ∧ ∀ v H', ExB q H H' → Box H' q n → 0 ≤ v → v < m → Q (.int v) H'
def sp_law_names (p : Pm) : Sp := fun vs H Q _ => ∃ q n, vs = [.ref q, .int 7] ∧ Box H q (n + 20) ∧ ∀ v H' (zs : List Str), ExB q H H' → Box H' q n → NewL RStr zs v H' → zs.length = 7 → zs.Nodup → (∀ z ∈ zs, Nm z) → Q v H'
def sp_law_need (p : Pm) : Sp := spP fun vs H R => ∃ v rs s e k, vs = [v, .int s, .int e, .int k] ∧ LsAt RRow v rs H ∧ rs.length ≤ 100 ∧ Fm.Oks rs ∧ K3 k ∧ R = Is (.int (Fm.need rs s e k))
def sp_law_short (p : Pm) : Sp := spP fun vs H R => ∃ v rs k, vs = [v, .int k] ∧ LsAt RRow v rs H ∧ rs.length ≤ 100 ∧ Fm.Oks rs ∧ K3 k ∧ R = NewL RPair (Fm.lawShort rs k)
def sp_law_drawn_row (p : Pm) : Sp := fun vs H Q _ => ∃ q z n t l, vs = [.ref q, .str z, .int t, .int l] ∧ Box H q (n + 10) ∧ 1 ≤ t ∧ t ≤ 150 ∧ 1 ≤ l ∧ l ≤ 12 ∧ ∀ v H' r, ExB q H H' → Box H' q n → RRow v r H' → Fm.Ok r → r.n = z → Q v H'
/-- what is promised: rows kept, each refused one not kept behind them -/
structure Prom (rs qs : List Row) (k : Int) : Prop where
  wf : Rws rs
  kept : Fm.Kept rs k
  le : rs.length ≤ 7
  qs : ∀ r ∈ qs, Rws (rs ++ [r]) ∧ ¬ Fm.Kept (rs ++ [r]) k
def sp_law_promised (p : Pm) : Sp := fun vs H Q _ => ∃ q v k zs n, vs = [.ref q, v, .int k] ∧ Box H q (n + 100) ∧ LsAt RStr v zs H ∧ zs.length = 7 ∧ zs.Nodup ∧ (∀ z ∈ zs, Nm z) ∧ 0 ≤ k ∧ k ≤ 29 ∧
  ∀ H' rs qs u a b, ExB q H H' → Box H' q n → H' u = some (.lst [.ref a, .ref b]) → LsAt RRow (.ref a) rs H' → LsAt RRow (.ref b) qs H' → Prom rs qs k → Q (.ref u) H'
/-- an order of work that is right for rows -/
structure OrdOk (rs : List Row) (o : List (Int × Str)) : Prop where
  up : (o.map (·.1)).Pairwise (· < ·)
  mine : ∀ r ∈ rs, (((o.filter fun x => decide (x.2 = r.n)).map (·.1)).length : Int) = r.r
  win : ∀ r ∈ rs, ∀ x ∈ o, x.2 = r.n → r.f ≤ x.1 ∧ x.1 ≤ r.l
  all : (o.length : Int) = (rs.map (·.r)).sum
  len : o.length ≤ 1000
  rl : rs.length ≤ 1000
def sp_law_order_right (p : Pm) : Sp := spP fun vs H R => ∃ v rs u o, vs = [v, u] ∧ LsAt RRow v rs H ∧ LsAt RTurn u o H ∧ OrdOk rs o ∧ R = Is (.bl true)
def turnsTo (most : Int) : List Int := (List.range most.toNat).map fun i : Nat => (i : Int) + 1
/-- the move by t: of the last turn, of the first -/
def later (r : Row) (t : Int) : Row := { r with l := r.l + t }
def earlier (r : Row) (t : Int) : Row := { r with f := r.f - t }
def law_nums (rs : List Row) (k : Int) (mv : Int → Row) (most : Int) : List Int := (turnsTo most).filter fun t => (Fm.lawShort (rs ++ [mv t]) k).isEmpty
def sp_law_numbers (p : Pm) : Sp := spP fun vs H R => ∃ v rs k y r pl st most mv, vs = [v, .int k, y, .int pl, .int st, .int most] ∧ LsAt RRow v rs H ∧ rs.length ≤ 50 ∧ Fm.Oks rs ∧ RRow y r H ∧ K3 k ∧ (0 ≤ most ∧ most ≤ 200) ∧
  ((pl = 2 ∧ st = 1 ∧ mv = later r) ∨ (pl = 1 ∧ st = -1 ∧ mv = earlier r)) ∧ (∀ t, 1 ≤ t → t ≤ most → Fm.Ok (mv t)) ∧ R = NewL RInt (law_nums rs k mv most)
/-- told fits found -/
def Fits (u : V) (found : List Int) (most : Int) (H : Hp) : Prop := (found = [] ∧ u = .non) ∨ ∃ h a x y, u = .ref a ∧ H a = some (.tup [.int h, x, y]) ∧ 1 ≤ h ∧ h ≤ most ∧ found = (turnsTo most).filter fun t => decide (h ≤ t)
def sp_law_turns_right (p : Pm) : Sp := spP fun vs H R => ∃ u v found most, vs = [u, v, .int most] ∧ LsAt RInt v found H ∧ Fits u found most H ∧ most ≤ 200 ∧ R = Is (.bl true)
def sp_law_borne (p : Pm) : Sp := spP fun vs H R => ∃ v rs, vs = [v] ∧ LsAt RRow v rs H ∧ rs.length ≤ 100 ∧ Fm.Oks rs ∧ R = fun u _ => ∃ m, u = .int m ∧ -1 ≤ m ∧ m ≤ 200 ∧ (0 ≤ m → Fm.Kept rs m) ∧ (m = 200 ∨ ¬ Fm.Kept rs (m + 1))
end
end Fs

set_option Elab.async false
set_option linter.all false
set_option maxRecDepth 100000
set_option maxHeartbeats 4000000
/-! the readings (printed by gen_walk.py) -/
namespace Fs
open PySem PySem.Spec PyProof.Rows L2 Evl
/-- is_whole -/
def t_is_whole (p : Pm) : TS := (tRet (tAndV (tCB (rIsi p.K) (tCons (tVar 0) (tCons (tC (.ty "int")) tNil))) (tNotV (tCB (rIsi p.K) (tCons (tVar 0) (tCons (tC (.ty "bool")) tNil))))))
/-- is_within -/
def t_is_within (p : Pm) : TS := (tRet (tAndV (tCall (sp_is_whole p) [] E0 (tCons (tVar 0) tNil)) (tChain rLeI rLeI (tVar 1) (tVar 0) (tVar 2))))
/-- is_name -/
def t_is_name (p : Pm) : TS := (tSeq (tIfS (tOr (tNot (tB (tCB (rIsi p.K) (tCons (tVar 0) (tCons (tC (.ty "str")) tNil))))) (tOr (tNot (tTest (tChain rLeI rLeI (tC (.int 1)) (tCB rLenStr (tCons (tVar 0) tNil)) (tC (.int 8))))) (tTest (tOp rNotInSign (tOp rIxS (tVar 0) (tC (.int 0))) (tC (.str "abcdefghijklmnopqrstuvwxyz")))))) (tRet (tC (.bl false))) tNext)
  (tRet (tCB (rAll p.K) (tCons (tLc (iStr (tVar 0)) (gName 1) tYes (tOp rInSign (tVar 1) (tOp rCatS (tC (.str "abcdefghijklmnopqrstuvwxyz")) (tC (.str "0123456789")))) [1]) tNil))))
/-- is_stretch -/
def t_is_stretch (p : Pm) : TS := (tSeq (tIfS (tOr (tNot (tB (tCB (rIsi p.K) (tCons (tVar 0) (tCons (tC (.ty "tuple")) tNil))))) (tOr (tTest (tOp rNe (tCB (Evl.rLenS p.K) (tCons (tVar 0) tNil)) (tC (.int 2)))) (tNot (tB (tCall (sp_is_within p) [] E0 (tCons (tOp (rIxT p.K) (tVar 0) (tC (.int 0))) (tCons (tC (.int 0)) (tCons (tOp rAddI (tC (.int 199)) (tC (.int 1))) tNil)))))))) (tRet (tC (.bl false))) tNext)
  (tRet (tCall (sp_is_within p) [] E0 (tCons (tOp (rIxT p.K) (tVar 0) (tC (.int 1))) (tCons (tOp rSubI (tOp (rIxT p.K) (tVar 0) (tC (.int 0))) (tC (.int 1))) (tCons (tC (.int 199)) tNil))))))
/-- need_stretch -/
def t_need_stretch (p : Pm) : TS := (tIfS (tNot (tB (tCall (sp_is_stretch p) [] E0 (tCons (tVar 0) tNil)))) tNever tNext)
/-- need_failings -/
def t_need_failings (p : Pm) : TS := (tIfS (tNot (tB (tCall (sp_is_within p) [] E0 (tCons (tVar 0) (tCons (tC (.int 0)) (tCons (tC (.int 300)) tNil)))))) tNever tNext)
/-- room -/
def t_room (p : Pm) : TS := (tSeq (tDrop (tCall (sp_need_stretch p) [] E0 (tCons (tVar 0) tNil)))
  (tRet (tOp rAddI (tOp rSubI (tOp (rIxT p.K) (tVar 0) (tC (.int 1))) (tOp (rIxT p.K) (tVar 0) (tC (.int 0)))) (tC (.int 1)))))
/-- window_fault -/
def t_window_fault (p : Pm) : TS := (tSeq (tIfS (tNot (tB (tCall (sp_is_within p) [] E0 (tCons (tOp (rIxT p.K) (tVar 0) (tC (.int 1))) (tCons (tC (.int 0)) (tCons (tOp rAddI (tC (.int 199)) (tC (.int 1))) tNil)))))) (tRet (tC (.str "first"))) tNext)
  (tSeq (tIfS (tNot (tB (tCall (sp_is_within p) [] E0 (tCons (tOp (rIxT p.K) (tVar 0) (tC (.int 2))) (tCons (tCB Evl.rMax2 (tCons (tC (.int 0)) (tCons (tOp rSubI (tOp (rIxT p.K) (tVar 0) (tC (.int 1))) (tC (.int 1))) tNil))) (tCons (tC (.int 199)) tNil)))))) (tRet (tC (.str "last"))) tNext)
  (tSeq (tIfS (tNot (tB (tCall (sp_is_within p) [] E0 (tCons (tOp (rIxT p.K) (tVar 0) (tC (.int 3))) (tCons (tC (.int 1)) (tCons (tC (.int 12)) tNil)))))) (tRet (tC (.str "length"))) tNext)
  (tSeq (tIfS (tAnd (tTest (tOp rEq (tCB (Evl.rLenS p.K) (tCons (tVar 0) tNil)) (tC (.int 5)))) (tNot (tB (tCall (sp_is_within p) [] E0 (tCons (tOp (rIxT p.K) (tVar 0) (tC (.int 4))) (tCons (tC (.int 0)) (tCons (tOp (rIxT p.K) (tVar 0) (tC (.int 3))) tNil))))))) (tRet (tC (.str "left"))) tNext)
  (tRet (tC .non))))))
/-- row_fault -/
def t_row_fault (p : Pm) : TS := (tSeq (tIfS (tOr (tNot (tB (tCB (rIsi p.K) (tCons (tVar 1) (tCons (tC (.ty "tuple")) tNil))))) (tNot (tTest (tChain rLeI rLeI (tC (.int 4)) (tCB (Evl.rLenS p.K) (tCons (tVar 1) tNil)) (tC (.int 5)))))) (tRet (tC (.str "form"))) tNext)
  (tSeq (tIfS (tNot (tB (tCall (sp_is_name p) [] E0 (tCons (tOp (rIxT p.K) (tVar 1) (tC (.int 0))) tNil)))) (tRet (tC (.str "name"))) tNext)
  (tSeq (tIfS (tB (tDIn (tOp (rIxT p.K) (tVar 1) (tC (.int 0))) (tVar 0))) (tRet (tC (.str "double"))) tNext)
  (tRet (tCall (sp_window_fault p) [] E0 (tCons (tVar 1) tNil))))))
/-- five_of -/
def t_five_of (p : Pm) : TS := (tSeq (tIfS (tTest (tOp rEq (tCB (Evl.rLenS p.K) (tCons (tVar 0) tNil)) (tC (.int 4)))) tNever tNext)
  (tRet (tVar 0)))
/-- five_rows -/
def t_five_rows (p : Pm) : TS := (tSeq (tIfS (tNot (tB (tCB (rIsiT p.K) (tCons (tVar 0) (tCons (tTup (tCons (tC (.ty "list")) (tCons (tC (.ty "tuple")) tNil))) tNil))))) tNever tNext)
  (tSeq (tIfS (tTest (tOp rGtI (tCB (Evl.rLenS p.K) (tCons (tVar 0) tNil)) (tC (.int 30)))) tNever tNext)
  (tSeq (tAsg tDNewK (gName 1))
  (tSeq (tFor (iEnum p.K (tCons (tVar 0) tNil)) (gTup p.K 2 (gCons (gName 2) (gCons (gName 3) gNil))) (tSeq (tAsg (tCall (sp_row_fault p) [] E0 (tCons (tVar 1) (tCons (tVar 3) tNil))) (gName 4))
  (tSeq (tIfS (tTest (tOp rNotNo (tVar 4) (tC .non))) tNever tNext)
  (sDPut (tVar 1) (tOp (rIxT p.K) (tVar 3) (tC (.int 0))) (tCall (sp_five_of p) [] E0 (tCons (tVar 3) tNil))))))
  (tRet (tVar 1))))))
/-- Pieces.__init__ -/
def t_Pieces_init (p : Pm) : TS := (sFld p.K (tVar 0) (tCall (sp_five_rows p) [] E0 (tCons (tVar 1) tNil)) "fives")
/-- Pieces.told -/
def t_Pieces_told (p : Pm) : TS := (tRet (tCB rTupleV (tCons (tVals (tFld p.K (tVar 0) "fives")) tNil)))
/-- Pieces.names -/
def t_Pieces_names (p : Pm) : TS := (tRet (tCB rListD (tCons (tFld p.K (tVar 0) "fives") tNil)))
/-- Pieces.has -/
def t_Pieces_has (p : Pm) : TS := (tRet (tAndV (tCB (rIsi p.K) (tCons (tVar 1) (tCons (tC (.ty "str")) tNil))) (tDIn (tVar 1) (tFld p.K (tVar 0) "fives"))))
/-- Pieces.row -/
def t_Pieces_row (p : Pm) : TS := (tSeq (tIfS (tNot (tB (tMeth p.CP "has" (sp_Pieces_has p) [] E0 (tVar 0) (tCons (tVar 1) tNil)))) tNever tNext)
  (tRet (tDGet (tFld p.K (tVar 0) "fives") (tVar 1))))
/-- Pieces.with_row -/
def t_Pieces_with_row (p : Pm) : TS := (tRet (tMake p.CP (sp_Pieces_init p) [] E0 (tCons (tOp rCat (tCB (Evl.rListS p.K) (tCons (tMeth p.CP "told" (sp_Pieces_told p) [] E0 (tVar 0) tNil) tNil)) (tLst (tCons (tVar 1) tNil))) tNil)))
/-- Pieces.without -/
def t_Pieces_without (p : Pm) : TS := (tSeq (tAsg (tMeth p.CP "row" (sp_Pieces_row p) [] E0 (tVar 0) (tCons (tVar 1) tNil)) (gName 2))
  (tRet (tMake p.CP (sp_Pieces_init p) [] E0 (tCons (tLc (iTup p.K (tMeth p.CP "told" (sp_Pieces_told p) [] E0 (tVar 0) tNil)) (gName 3) (tTest (tOp (rNeD p.K) (tVar 3) (tVar 2))) (tVar 3) [3]) tNil))))
/-- Pieces.put_at -/
def t_Pieces_put_at (p : Pm) : TS := (tRet (tMake p.CP (sp_Pieces_init p) [] E0 (tCons (tLc (iTup p.K (tMeth p.CP "told" (sp_Pieces_told p) [] E0 (tVar 0) tNil)) (gName 3) tYes (tIf (tTest (tOp rEq (tOp (rIxT p.K) (tVar 3) (tC (.int 0))) (tVar 1))) (tVar 2) (tVar 3)) [3]) tNil)))
/-- Pieces.with_last -/
def t_Pieces_with_last (p : Pm) : TS := (tSeq (tAsg (tMeth p.CP "row" (sp_Pieces_row p) [] E0 (tVar 0) (tCons (tVar 1) tNil)) (gName 3))
  (tRet (tMeth p.CP "put_at" (sp_Pieces_put_at p) [] E0 (tVar 0) (tCons (tVar 1) (tCons (tOp (rCatA p.K) (tOp (rCatA p.K) (tSl (rSlA p.K) (tVar 3) tNoPart (tPart (tC (.int 2)))) (tTup (tCons (tVar 2) tNil))) (tSl (rSlA p.K) (tVar 3) (tPart (tC (.int 3))) tNoPart)) tNil)))))
/-- rows_within -/
def t_rows_within (p : Pm) : TS := (tSeq (tDrop (tCall (sp_need_stretch p) [] E0 (tCons (tVar 1) tNil)))
  (tRet (tLc (iTup p.K (tMeth p.CP "told" (sp_Pieces_told p) [] E0 (tVar 0) tNil)) (gName 2) (tAnd (tTest (tOp rGeI (tOp (rIxT p.K) (tVar 2) (tC (.int 1))) (tOp (rIxT p.K) (tVar 1) (tC (.int 0))))) (tTest (tOp rLeI (tOp (rIxT p.K) (tVar 2) (tC (.int 2))) (tOp (rIxT p.K) (tVar 1) (tC (.int 1)))))) (tVar 2) [2])))
/-- lefts -/
def t_lefts (p : Pm) : TS := (tRet (tCB (rSum p.K) (tCons (tLc (iList p.K (tCall (sp_rows_within p) [] E0 (tCons (tVar 0) (tCons (tVar 1) tNil)))) (gName 2) tYes (tOp (rIxT p.K) (tVar 2) (tC (.int 4))) [2]) tNil)))
/-- greatest_length -/
def t_greatest_length (p : Pm) : TS := (tRet (tCKw (rMaxDef p.K) (tCons (tLc (iList p.K (tCall (sp_rows_within p) [] E0 (tCons (tVar 0) (tCons (tVar 1) tNil)))) (gName 2) tYes (tOp (rIxT p.K) (tVar 2) (tC (.int 3))) [2]) tNil) (tCons (tC (.int 0)) tNil)))
/-- longest -/
def t_longest (p : Pm) : TS := (tSeq (tAsg (tCall (sp_greatest_length p) [] E0 (tCons (tVar 0) (tCons (tVar 1) tNil))) (gName 2))
  (tSeq (tFor (iList p.K (tCall (sp_rows_within p) [] E0 (tCons (tVar 0) (tCons (tVar 1) tNil)))) (gName 3) (tIfS (tTest (tOp rEq (tOp (rIxT p.K) (tVar 3) (tC (.int 3))) (tVar 2))) (tRet (tOp (rIxT p.K) (tVar 3) (tC (.int 0)))) tNext))
  (tRet (tC .non))))
/-- need -/
def t_need (p : Pm) : TS := (tSeq (tDrop (tCall (sp_need_stretch p) [] E0 (tCons (tVar 1) tNil)))
  (tSeq (tDrop (tCall (sp_need_failings p) [] E0 (tCons (tVar 2) tNil)))
  (tRet (tOp rAddI (tCall (sp_lefts p) [] E0 (tCons (tVar 0) (tCons (tVar 1) tNil))) (tOp rMulW (tVar 2) (tCall (sp_greatest_length p) [] E0 (tCons (tVar 0) (tCons (tVar 1) tNil))))))))
/-- stretches -/
def t_stretches (p : Pm) : TS := (tSeq (tAsg (tCB (rSortedSetB p.w) (tCons (tCB (Fs.rSetL p.K p.w) (tCons (tLc (iTup p.K (tMeth p.CP "told" (sp_Pieces_told p) [] E0 (tVar 0) tNil)) (gName 2) tYes (tOp (rIxT p.K) (tVar 2) (tC (.int 1))) [2]) tNil)) tNil)) (gName 1))
  (tSeq (tAsg (tCB (rSortedSetB p.w) (tCons (tCB (Fs.rSetL p.K p.w) (tCons (tLc (iTup p.K (tMeth p.CP "told" (sp_Pieces_told p) [] E0 (tVar 0) tNil)) (gName 2) tYes (tOp (rIxT p.K) (tVar 2) (tC (.int 2))) [2]) tNil)) tNil)) (gName 3))
  (tSeq (tAsg (tLst tNil) (gName 4))
  (tSeq (tFor (iList p.K (tVar 1)) (gName 5) (tFor (iList p.K (tVar 3)) (gName 6) (tIfS (tAnd (tTest (tOp rGeI (tVar 6) (tOp rSubI (tVar 5) (tC (.int 1))))) (tTest (tOp (rNeD p.K) (tCall (sp_rows_within p) [] E0 (tCons (tVar 0) (tCons (tTup (tCons (tVar 5) (tCons (tVar 6) tNil))) tNil))) (tLst tNil)))) (tDrop (tBM p.K "list" rAppend (tVar 4) (tCons (tTup (tCons (tVar 5) (tCons (tVar 6) tNil))) tNil))) tNext)))
  (tRet (tVar 4))))))
/-- table -/
def t_table (p : Pm) : TS := (tSeq (tDrop (tCall (sp_need_failings p) [] E0 (tCons (tVar 1) tNil)))
  (tSeq (tAsg (tLst tNil) (gName 2))
  (tSeq (tFor (iList p.K (tCall (sp_stretches p) [] E0 (tCons (tVar 0) tNil))) (gTup p.K 2 (gCons (gName 3) (gCons (gName 4) gNil))) (tDrop (tBM p.K "list" rAppend (tVar 2) (tCons (tTup (tCons (tVar 3) (tCons (tVar 4) (tCons (tCall (sp_need p) [] E0 (tCons (tVar 0) (tCons (tTup (tCons (tVar 3) (tCons (tVar 4) tNil))) (tCons (tVar 1) tNil)))) (tCons (tCall (sp_room p) [] E0 (tCons (tTup (tCons (tVar 3) (tCons (tVar 4) tNil))) tNil)) tNil))))) tNil))))
  (tRet (tVar 2)))))
/-- too_short -/
def t_too_short (p : Pm) : TS := (tSeq (tFor (iList p.K (tCall (sp_table p) [] E0 (tCons (tVar 0) (tCons (tVar 1) tNil)))) (gTup p.K 4 (gCons (gName 2) (gCons (gName 3) (gCons (gName 4) (gCons (gName 5) gNil))))) (tIfS (tTest (tOp rGtI (tVar 4) (tVar 5))) (tRet (tTup (tCons (tVar 2) (tCons (tVar 3) tNil)))) tNext))
  (tRet (tC .non)))
/-- is_kept -/
def t_is_kept (p : Pm) : TS := (tRet (tOp rIsNo (tCall (sp_too_short p) [] E0 (tCons (tVar 0) (tCons (tVar 1) tNil))) (tC .non)))
/-- Paper.__init__ -/
def t_Paper_init (p : Pm) : TS := (tSeq (tDrop (tCall (sp_need_failings p) [] E0 (tCons (tVar 2) tNil)))
  (tSeq (sFld p.K (tVar 0) (tVar 1) "held")
  (sFld p.K (tVar 0) (tVar 2) "most")))
/-- Paper.failings -/
def t_Paper_failings (p : Pm) : TS := (tRet (tFld p.K (tVar 0) "most"))
/-- Kept.word -/
def t_Kept_word (p : Pm) : TS := (tRet (tC (.str "kept")))
/-- Kept.holds -/
def t_Kept_holds (p : Pm) : TS := (tRet (tCall (sp_is_kept p) [] E0 (tCons (tFld p.K (tVar 0) "held") (tCons (tFld p.K (tVar 0) "most") tNil))))
/-- quotient -/
def t_quotient (p : Pm) : TS := (tRet (tCB Evl.rMax2 (tCons (tUn rNegI (tC (.int 1))) (tCons (tOp rDivW (tOp rSubI (tCall (sp_room p) [] E0 (tCons (tVar 1) tNil)) (tCall (sp_lefts p) [] E0 (tCons (tVar 0) (tCons (tVar 1) tNil)))) (tVar 2)) tNil))))
/-- length_of -/
def t_length_of (p : Pm) : TS := (tRet (tOp (rIxT p.K) (tMeth p.CP "row" (sp_Pieces_row p) [] E0 (tVar 0) (tCons (tVar 1) tNil)) (tC (.int 3))))
/-- borne -/
def t_borne (p : Pm) : TS := (tSeq (tIfS (tTest (tOp (rEqD p.K) (tMeth p.CP "names" (sp_Pieces_names p) [] E0 (tVar 0) tNil) (tLst tNil))) (tRet (tC .non)) tNext)
  (tRet (tCB (rMin p.K) (tCons (tLc (iList p.K (tCall (sp_stretches p) [] E0 (tCons (tVar 0) tNil))) (gName 1) tYes (tCall (sp_quotient p) [] E0 (tCons (tVar 0) (tCons (tVar 1) (tCons (tCall (sp_length_of p) [] E0 (tCons (tVar 0) (tCons (tCall (sp_longest p) [] E0 (tCons (tVar 0) (tCons (tVar 1) tNil))) tNil))) tNil)))) [1]) tNil))))
/-- refused_with -/
def t_refused_with (p : Pm) : TS := (tSeq (tAsg (tMeth p.CP "with_row" (sp_Pieces_with_row p) [] E0 (tVar 0) (tCons (tVar 2) tNil)) (gName 3))
  (tSeq (tIfS (tOr (tB (tCall (sp_is_kept p) [] E0 (tCons (tVar 3) (tCons (tVar 1) tNil)))) (tNot (tB (tCall (sp_is_kept p) [] E0 (tCons (tVar 0) (tCons (tVar 1) tNil)))))) tNever tNext)
  (tRet (tVar 3))))
/-- is_counts -/
def t_is_counts (p : Pm) : TS := (tSeq (tIfS (tNot (tB (tCB (rIsi p.K) (tCons (tVar 1) (tCons (tC (.ty "dict")) tNil))))) (tRet (tC (.bl false))) tNext)
  (tSeq (tLock (tFor (iItems (tVar 1)) (gTup p.K 2 (gCons (gName 2) (gCons (gName 3) gNil))) (tIfS (tOr (tNot (tB (tMeth p.CP "has" (sp_Pieces_has p) [] E0 (tVar 0) (tCons (tVar 2) tNil)))) (tNot (tB (tCall (sp_is_within p) [] E0 (tCons (tVar 3) (tCons (tC (.int 0)) (tCons (tC (.int 200)) tNil))))))) (tRet (tC (.bl false))) tNext)))
  (tRet (tOp rLeI (tCB (rSum p.K) (tCons (tCB rListV (tCons (tVals (tVar 1)) tNil)) tNil)) (tC (.int 200))))))
/-- need_counts -/
def t_need_counts (p : Pm) : TS := (tIfS (tNot (tB (tCall (sp_is_counts p) [] E0 (tCons (tVar 0) (tCons (tVar 1) tNil))))) tNever tNext)
/-- Run.rests -/
def t_Run_rests (p : Pm) : TS := (tRet (tC (.bl false)))
/-- Run.rows -/
def t_Run_rows (p : Pm) : TS := (tRet (tCB (Evl.rListS p.K) (tCons (tFld p.K (tVar 0) "trodden") tNil)))
/-- Crowd.__init__ -/
def t_Crowd_init (p : Pm) : TS := (tSeq (tDrop (tCFun p.CA (sp_Paper_init p) E0 (tC (.ref p.CA)) (tCons (tVar 0) (tCons (tVar 1) (tCons (tVar 2) tNil)))))
  (tSeq (tIfS (tNot (tB (tCall (sp_is_stretch p) [] E0 (tCons (tVar 3) tNil)))) tNever tNext)
  (sFld p.K (tVar 0) (tVar 3) "spot")))
/-- paper_of -/
def t_paper_of (p : Pm) : TS := (tSeq (tAsg (tCall (sp_too_short p) [] E0 (tCons (tVar 0) (tCons (tVar 1) tNil))) (gName 2))
  (tSeq (tIfS (tTest (tOp rIsNo (tVar 2) (tC .non))) (tRet (tMake p.CK (sp_Kept_init p) [] E0 (tCons (tVar 0) (tCons (tVar 1) tNil)))) tNext)
  (tRet (tMake p.CC (sp_Crowd_init p) [] E0 (tCons (tVar 0) (tCons (tVar 1) (tCons (tVar 2) tNil)))))))
/-- least_turns -/
def t_least_turns (p : Pm) (m : Lm) : TS := (tSeq (tIfS (tOr (tTest (tOp rLtI (tVar 2) (tC (.int 1)))) (tNot (tB (tCall (sp_is_kept p) [] E0 (tCons (tLamv m.L m.b m.fr m.sp 1 (tCons (tVar 2) tNil)) (tCons (tVar 0) tNil)))))) (tRet (tC .non)) tNext)
  (tSeq (tAsg (tC (.int 0)) (gName 3))
  (tSeq (tAsg (tVar 2) (gName 4))
  (tSeq (tWhile (tTest (tOp rGtI (tOp rSubI (tVar 4) (tVar 3)) (tC (.int 1)))) (tSeq (tAsg (tOp rDivW (tOp rAddI (tVar 3) (tVar 4)) (tC (.int 2))) (gName 5))
  (tIfS (tB (tCall (sp_is_kept p) [] E0 (tCons (tLamv m.L m.b m.fr m.sp 1 (tCons (tVar 5) tNil)) (tCons (tVar 0) tNil)))) (tAsg (tVar 5) (gName 4)) (tAsg (tVar 5) (gName 3)))))
  (tRet (tTup (tCons (tVar 4) (tCons (tMake p.CK (sp_Kept_init p) [] E0 (tCons (tLamv m.L m.b m.fr m.sp 1 (tCons (tVar 4) tNil)) (tCons (tVar 0) tNil))) (tCons (tCall (sp_paper_of p) [] E0 (tCons (tLamv m.L m.b m.fr m.sp 1 (tCons (tVar 3) tNil)) (tCons (tVar 0) tNil))) tNil)))))))))
/-- fewer -/
def t_fewer (p : Pm) : TS := (tSeq (tDrop (tCall (sp_need_failings p) [] E0 (tCons (tVar 1) tNil)))
  (tRet (tCall (sp_borne p) [] E0 (tCons (tCall (sp_refused_with p) [] E0 (tCons (tVar 0) (tCons (tVar 1) (tCons (tVar 2) tNil)))) tNil))))
/-- instead_of -/
def t_instead_of (p : Pm) : TS := (tSeq (tDrop (tCall (sp_need_failings p) [] E0 (tCons (tVar 1) tNil)))
  (tSeq (tAsg (tCall (sp_refused_with p) [] E0 (tCons (tVar 0) (tCons (tVar 1) (tCons (tVar 2) tNil)))) (gName 3))
  (tSeq (tAsg (tLst tNil) (gName 4))
  (tSeq (tFor (iList p.K (tMeth p.CP "names" (sp_Pieces_names p) [] E0 (tVar 0) tNil)) (gName 5) (tSeq (tAsg (tMeth p.CP "without" (sp_Pieces_without p) [] E0 (tVar 3) (tCons (tVar 5) tNil)) (gName 6))
  (tIfS (tB (tCall (sp_is_kept p) [] E0 (tCons (tVar 6) (tCons (tVar 1) tNil)))) (tDrop (tBM p.K "list" rAppend (tVar 4) (tCons (tTup (tCons (tVar 5) (tCons (tMake p.CK (sp_Kept_init p) [] E0 (tCons (tVar 6) (tCons (tVar 1) tNil))) tNil))) tNil))) tNext)))
  (tRet (tVar 4))))))
/-- _law_cell -/
def t_law_cell (p : Pm) : TS := (tSeq (tIfS (tTest (tOp rLtI (tVar 1) (tCB (Evl.rLenS p.K) (tCons (tVar 0) tNil)))) (tRet (tOp (rIxL p.K) (tVar 0) (tVar 1))) tNext)
  (tSeq (tIfS (tTest (tOp rEq (tCB (Evl.rLenS p.K) (tCons (tVar 0) tNil)) (tC (.int 0)))) (tRet (tOp rAddI (tOp rMulW (tC (.int 48271)) (tVar 1)) (tC (.int 7)))) tNext)
  (tRet (tOp rAddI (tOp rDivW (tOp (rIxL p.K) (tVar 0) (tOp rModI (tVar 1) (tCB (Evl.rLenS p.K) (tCons (tVar 0) tNil)))) (tOp rAddI (tVar 1) (tC (.int 1)))) (tOp rMulW (tC (.int 7919)) (tVar 1))))))
/-- _law_box -/
def t_law_box (p : Pm) : TS := (tRet (tLst (tCons (tCB Evl.rMax2 (tCons (tC (.int 0)) (tCons (tOp rSubI (tVar 0) (tOp rPowI (tC (.int 10)) (tC (.int 18)))) tNil))) (tCons (tOp rModI (tVar 0) (tC (.int 2147483647))) (tCons (tC (.int 0)) tNil)))))
/-- _law_take -/
def t_law_take (p : Pm) : TS := (tSeq (tIfS (tTest (tOp rGtI (tOp (rIxL p.K) (tVar 0) (tC (.int 0))) (tC (.int 0)))) (tSeq (tAsg (tOp rModI (tOp (rIxL p.K) (tVar 0) (tC (.int 0))) (tVar 1)) (gName 2))
  (tSeq (tAsg (tOp rDivW (tOp (rIxL p.K) (tVar 0) (tC (.int 0))) (tVar 1)) (gSub (tVar 0) (tC (.int 0)) L2.rSetL))
  (tRet (tVar 2)))) tNext)
  (tSeq (tAsg (tOp rAddI (tOp (rIxL p.K) (tVar 0) (tC (.int 2))) (tC (.int 1))) (gSub (tVar 0) (tC (.int 2)) L2.rSetL))
  (tSeq (tAsg (tOp rModI (tOp rAddI (tOp rAddI (tOp rMulW (tOp (rIxL p.K) (tVar 0) (tC (.int 1))) (tC (.int 48271))) (tOp rMulW (tC (.int 7919)) (tOp (rIxL p.K) (tVar 0) (tC (.int 2))))) (tC (.int 11))) (tC (.int 2147483629))) (gName 3))
  (tSeq (tAsg (tOp rModI (tOp rMulW (tOp rModI (tOp rMulW (tVar 3) (tVar 3)) (tC (.int 2147483587))) (tC (.int 69621))) (tC (.int 2147483647))) (gName 3))
  (tRet (tOp rModI (tOp rDivW (tOp rModI (tOp rMulW (tVar 3) (tVar 3)) (tC (.int 2147483629))) (tC (.int 8))) (tVar 1)))))))
/-- _law_names -/
def t_law_names (p : Pm) : TS := (tSeq (tAsg (tC (.str "abcdefghijklmnopqrstuvwxyz")) (gName 2))
  (tSeq (tAsg (tLst (tCons (tC (.str "a")) (tCons (tC (.str "ask")) (tCons (tC (.str "b")) (tCons (tC (.str "work")) (tCons (tC (.str "a1")) (tCons (tC (.str "rest")) (tCons (tC (.str "ab")) (tCons (tC (.str "failed")) (tCons (tC (.str "abc")) (tCons (tC (.str "done")) (tCons (tC (.str "ba")) (tCons (tC (.str "off")) (tCons (tC (.str "aa")) (tCons (tC (.str "left")) tNil))))))))))))))) (gName 3))
  (tSeq (tIfS (tAnd (tTest (tOp rLtI (tVar 1) (tC (.int 15)))) (tTest (tOp rEq (tCall (sp_law_take p) [] E0 (tCons (tVar 0) (tCons (tC (.int 4)) tNil))) (tC (.int 0))))) (tSeq (tAsg (tCall (sp_law_take p) [] E0 (tCons (tVar 0) (tCons (tC (.int 14)) tNil))) (gName 4))
  (tRet (tLc (iRng1 (tCons (tVar 1) tNil)) (gName 5) tYes (tOp (rIxL p.K) (tVar 3) (tOp rModI (tOp rAddI (tVar 4) (tOp rMulW (tC (.int 3)) (tVar 5))) (tC (.int 14)))) [5]))) tNext)
  (tSeq (tAsg (tM1 (rJoin p.K) (tC (.str "")) (tLc (iRng1 (tCons (tCall (sp_law_take p) [] E0 (tCons (tVar 0) (tCons (tC (.int 5)) tNil))) tNil)) (gName 5) tYes (tOp rIxS (tVar 2) (tCall (sp_law_take p) [] E0 (tCons (tVar 0) (tCons (tC (.int 26)) tNil)))) [5])) (gName 6))
  (tSeq (tAsg (tCall (sp_law_take p) [] E0 (tCons (tVar 0) (tCons (tOp rAddI (tCB rLenStr (tCons (tVar 6) tNil)) (tC (.int 1))) tNil))) (gName 4))
  (tSeq (tAsg (tCall (sp_law_take p) [] E0 (tCons (tVar 0) (tCons (tC (.int 26)) tNil))) (gName 7))
  (tSeq (tAsg (tLst tNil) (gName 8))
  (tSeq (tFor (iRng1 (tCons (tVar 1) tNil)) (gName 5) (tSeq (tAsg (tOp rCatS (tOp rIxS (tVar 2) (tOp rModI (tOp rAddI (tVar 7) (tOp rMulW (tC (.int 7)) (tVar 5))) (tC (.int 26)))) (tOp (rIxL p.K) (tLst (tCons (tC (.str "")) (tCons (tC (.str "0")) tNil))) (tOp rDivW (tVar 5) (tC (.int 26))))) (gName 9))
  (tDrop (tBM p.K "list" rAppend (tVar 8) (tCons (tOp rCatS (tOp rCatS (tOp rCatS (tSl C8.rSlX (tVar 6) tNoPart (tPart (tVar 4))) (tVar 9)) (tSl C8.rSlX (tVar 6) (tPart (tVar 4)) tNoPart)) (tSl C8.rSlX (tC (.str "z9")) tNoPart (tPart (tOp rModI (tVar 5) (tC (.int 3)))))) tNil)))))
  (tRet (tVar 8))))))))))
/-- _law_need -/
def t_law_need (p : Pm) : TS := (tSeq (tAsg (tLc (iList p.K (tVar 0)) (gName 5) (tAnd (tTest (tOp rLeI (tVar 1) (tOp (rIxT p.K) (tVar 5) (tC (.int 1))))) (tTest (tOp rLeI (tOp (rIxT p.K) (tVar 5) (tC (.int 2))) (tVar 2)))) (tVar 5) [5]) (gName 4))
  (tRet (tOp rAddI (tCB (rSum p.K) (tCons (tLc (iList p.K (tVar 4)) (gName 5) tYes (tOp (rIxT p.K) (tVar 5) (tC (.int 4))) [5]) tNil)) (tOp rMulW (tVar 3) (tCB (rMax p.K) (tCons (tOp rCat (tLc (iList p.K (tVar 4)) (gName 5) tYes (tOp (rIxT p.K) (tVar 5) (tC (.int 3))) [5]) (tLst (tCons (tC (.int 0)) tNil))) tNil))))))
/-- _law_short -/
def t_law_short (p : Pm) : TS := (tSeq (tAsg (tLst tNil) (gName 2))
  (tSeq (tFor (iList p.K (tCB (rSortedSetB p.w) (tCons (tCB (Fs.rSetL p.K p.w) (tCons (tLc (iList p.K (tVar 0)) (gName 4) tYes (tOp (rIxT p.K) (tVar 4) (tC (.int 1))) [4]) tNil)) tNil))) (gName 3) (tFor (iList p.K (tCB (rSortedSetB p.w) (tCons (tCB (Fs.rSetL p.K p.w) (tCons (tLc (iList p.K (tVar 0)) (gName 4) tYes (tOp (rIxT p.K) (tVar 4) (tC (.int 2))) [4]) tNil)) tNil))) (gName 5) (tIfS (tAnd (tTest (tOp rGeI (tVar 5) (tOp rSubI (tVar 3) (tC (.int 1))))) (tTest (tOp rGtI (tCall (sp_law_need p) [] E0 (tCons (tVar 0) (tCons (tVar 3) (tCons (tVar 5) (tCons (tVar 1) tNil))))) (tOp rAddI (tOp rSubI (tVar 5) (tVar 3)) (tC (.int 1)))))) (tDrop (tBM p.K "list" rAppend (tVar 2) (tCons (tTup (tCons (tVar 3) (tCons (tVar 5) tNil))) tNil))) tNext)))
  (tRet (tVar 2))))
/-- _law_drawn_row -/
def t_law_drawn_row (p : Pm) : TS := (tSeq (tAsg (tCall (sp_law_take p) [] E0 (tCons (tVar 0) (tCons (tVar 2) tNil))) (gName 4))
  (tSeq (tAsg (tCB rMin2 (tCons (tC (.int 199)) (tCons (tOp rAddI (tVar 4) (tCall (sp_law_take p) [] E0 (tCons (tVar 0) (tCons (tOp (rIxL p.K) (tLst (tCons (tC (.int 12)) (tCons (tVar 2) (tCons (tOp rMulW (tC (.int 2)) (tVar 2)) tNil)))) (tCall (sp_law_take p) [] E0 (tCons (tVar 0) (tCons (tC (.int 3)) tNil)))) tNil)))) tNil))) (gName 5))
  (tSeq (tAsg (tOp rAddI (tC (.int 1)) (tCall (sp_law_take p) [] E0 (tCons (tVar 0) (tCons (tVar 3) tNil)))) (gName 6))
  (tSeq (tAsg (tOp (rIxL p.K) (tLst (tCons (tVar 6) (tCons (tVar 6) (tCons (tVar 6) (tCons (tCall (sp_law_take p) [] E0 (tCons (tVar 0) (tCons (tOp rAddI (tVar 6) (tC (.int 1))) tNil))) tNil))))) (tCall (sp_law_take p) [] E0 (tCons (tVar 0) (tCons (tC (.int 4)) tNil)))) (gName 7))
  (tRet (tTup (tCons (tVar 1) (tCons (tVar 4) (tCons (tVar 5) (tCons (tVar 6) (tCons (tVar 7) tNil)))))))))))
/-- _law_promised -/
def t_law_promised (p : Pm) : TS := (tSeq (tAsg (tOp (rIxL p.K) (tLst (tCons (tC (.int 8)) (tCons (tC (.int 20)) (tCons (tC (.int 40)) (tCons (tC (.int 150)) tNil))))) (tCall (sp_law_take p) [] E0 (tCons (tVar 0) (tCons (tC (.int 4)) tNil)))) (gName 3))
  (tSeq (tAsg (tOp (rIxL p.K) (tLst (tCons (tC (.int 2)) (tCons (tC (.int 4)) (tCons (tC (.int 12)) tNil)))) (tCall (sp_law_take p) [] E0 (tCons (tVar 0) (tCons (tC (.int 3)) tNil)))) (gName 4))
  (tSeq (tAsg (tLst tNil) (gName 5))
  (tSeq (tAsg (tLst tNil) (gName 6))
  (tSeq (tFor (iList p.K (tVar 1)) (gName 7) (tSeq (tAsg (tCall (sp_law_drawn_row p) [] E0 (tCons (tVar 0) (tCons (tVar 7) (tCons (tVar 3) (tCons (tVar 4) tNil))))) (gName 8))
  (tIfS (tTest (tOp (rEqD p.K) (tCall (sp_law_short p) [] E0 (tCons (tOp rCat (tVar 5) (tLst (tCons (tVar 8) tNil))) (tCons (tVar 2) tNil))) (tLst tNil))) (tDrop (tBM p.K "list" rAppend (tVar 5) (tCons (tVar 8) tNil))) (tDrop (tBM p.K "list" rAppend (tVar 6) (tCons (tVar 8) tNil))))))
  (tRet (tLst (tCons (tVar 5) (tCons (tVar 6) tNil)))))))))
/-- _law_order_right -/
def t_law_order_right (p : Pm) : TS := (tSeq (tAsg (tLc (iList p.K (tVar 1)) (gName 3) tYes (tOp (rIxT p.K) (tVar 3) (tC (.int 0))) [3]) (gName 2))
  (tSeq (tIfS (tTest (tOp (rNeD p.K) (tVar 2) (tCB (rSortedSetB p.w) (tCons (tCB (Fs.rSetL p.K p.w) (tCons (tVar 2) tNil)) tNil)))) (tRet (tC (.bl false))) tNext)
  (tSeq (tFor (iList p.K (tVar 0)) (gTup p.K 5 (gCons (gName 4) (gCons (gName 5) (gCons (gName 6) (gCons (gName 7) (gCons (gName 8) gNil)))))) (tSeq (tAsg (tLc (iList p.K (tVar 1)) (gTup p.K 2 (gCons (gName 10) (gCons (gName 11) gNil))) (tTest (tOp rEq (tVar 11) (tVar 4))) (tVar 10) [10, 11]) (gName 9))
  (tIfS (tOr (tTest (tOp rNe (tCB (Evl.rLenS p.K) (tCons (tVar 9) tNil)) (tVar 8))) (tTest (tOp (rNeD p.K) (tLc (iList p.K (tVar 9)) (gName 10) (tNot (tTest (tChain rLeI rLeI (tVar 5) (tVar 10) (tVar 6)))) (tVar 10) [10]) (tLst tNil)))) (tRet (tC (.bl false))) tNext)))
  (tRet (tOp rEq (tCB (Evl.rLenS p.K) (tCons (tVar 1) tNil)) (tCB (rSum p.K) (tCons (tLc (iList p.K (tVar 0)) (gName 12) tYes (tOp (rIxT p.K) (tVar 12) (tC (.int 4))) [12]) tNil)))))))
/-- _law_numbers -/
def t_law_numbers (p : Pm) : TS := (tSeq (tAsg (tLst tNil) (gName 6))
  (tSeq (tFor (iRng2 (tCons (tC (.int 1)) (tCons (tOp rAddI (tVar 5) (tC (.int 1))) tNil))) (gName 7) (tSeq (tAsg (tOp (rCatA p.K) (tOp (rCatA p.K) (tSl (rSlA p.K) (tVar 2) tNoPart (tPart (tVar 3))) (tTup (tCons (tOp rAddI (tOp (rIxT p.K) (tVar 2) (tVar 3)) (tOp rMulW (tVar 4) (tVar 7))) tNil))) (tSl (rSlA p.K) (tVar 2) (tPart (tOp rAddI (tVar 3) (tC (.int 1)))) tNoPart)) (gName 8))
  (tIfS (tTest (tOp (rEqD p.K) (tCall (sp_law_short p) [] E0 (tCons (tOp rCat (tVar 0) (tLst (tCons (tVar 8) tNil))) (tCons (tVar 1) tNil))) (tLst tNil))) (tDrop (tBM p.K "list" rAppend (tVar 6) (tCons (tVar 7) tNil))) tNext)))
  (tRet (tVar 6))))
/-- _law_turns_right -/
def t_law_turns_right (p : Pm) : TS := (tSeq (tIfS (tTest (tOp (rEqD p.K) (tVar 1) (tLst tNil))) (tRet (tOp rIsNo (tVar 0) (tC .non))) tNext)
  (tRet (tAndV (tOp rNotNo (tVar 0) (tC .non)) (tAndV (tOp rEq (tOp (rIxT p.K) (tVar 0) (tC (.int 0))) (tOp (rIxL p.K) (tVar 1) (tC (.int 0)))) (tOp (rEqD p.K) (tVar 1) (tLstRg (tRg2 (tOp (rIxL p.K) (tVar 1) (tC (.int 0))) (tOp rAddI (tVar 2) (tC (.int 1))))))))))
/-- _law_borne -/
def t_law_borne (p : Pm) : TS := (tSeq (tAsg (tOp rSubI (tC (.int 0)) (tC (.int 1))) (gName 1))
  (tSeq (tWhile (tAnd (tTest (tOp (rEqD p.K) (tCall (sp_law_short p) [] E0 (tCons (tVar 0) (tCons (tOp rAddI (tVar 1) (tC (.int 1))) tNil))) (tLst tNil))) (tTest (tOp rLtI (tVar 1) (tC (.int 200))))) (tAsg (tOp rAddI (tVar 1) (tC (.int 1))) (gName 1)))
  (tRet (tVar 1))))
end Fs

set_option Elab.async false
set_option linter.all false
set_option maxRecDepth 100000
set_option maxHeartbeats 4000000
/-! READINGS -/
namespace Fs
open PySem PySem.Spec PyProof.Rows L2 Evl
/-! ### helpers -/
def Keeps (t : TS) (N : List Str) (sp : Sp) : Prop := ∀ vs H Q E, sp vs H Q E → t { nx := fun _ H' => Q .non H', rt := Q } (start N vs) H
section
variable {K : PySem.W.Frag} {σ : L2.St} {H H' : Hp} {te ta tb tc : TE} {tt : TT} {tl : TA} {v x y : V}
theorem isi_of {n : String} {t : Value} {b : Bool} (h : Ev te σ H x) (ty : ∀ H1, Ex H H1 → TyX K H1 x t) (k : PySem.W.kitOne K t (.type n) = some b) : Ev (tCB (rIsi K) (tCons te (tCons (tC (.ty n)) tNil))) σ H (.bl b) := fun H1 e Q q =>
  h H1 e _ fun H2 e2 => ⟨x, .ty n, t, .type n, b, rfl, .ty n, ty H2 (e.trans e2), k, q H2 e2⟩
theorem isi_int {i : Int} (h : Ev te σ H (.int i)) : Ev (tCB (rIsi K) (tCons te (tCons (tC (.ty "int")) tNil))) σ H (.bl true) := isi_of h (fun _ _ => .base (.int i)) (kit_ty (by decide +kernel))
theorem isi_bool {i : Int} (h : Ev te σ H (.int i)) : Ev (tCB (rIsi K) (tCons te (tCons (tC (.ty "bool")) tNil))) σ H (.bl false) := isi_of h (fun _ _ => .base (.int i)) (kit_ty (by decide +kernel))
theorem isi_str {z : Str} (h : Ev te σ H (.str z)) : Ev (tCB (rIsi K) (tCons te (tCons (tC (.ty "str")) tNil))) σ H (.bl true) := isi_of h (fun _ _ => .base (.str z)) (kit_ty (by decide +kernel))
theorem isi_tup {p : Addr} {xs : List V} (h : Ev te σ H (.ref p)) (hp : H p = some (.tup xs)) : Ev (tCB (rIsi K) (tCons te (tCons (tC (.ty "tuple")) tNil))) σ H (.bl true) := isi_of h (fun _ e => .base (.tup (e _ _ hp))) (kit_ty (by decide +kernel))
theorem isi_lst {p : Addr} {xs : List V} (h : Ev te σ H (.ref p)) (hp : H p = some (.lst xs)) : Ev (tCB (rIsi K) (tCons te (tCons (tC (.ty "list")) tNil))) σ H (.bl true) := isi_of h (fun _ e => .base (.lst (e _ _ hp))) (kit_ty (by decide +kernel))
theorem isi_dct {p : Addr} {kvs : List (Key × V)} (h : Ev te σ H (.ref p)) (hp : H p = some (.dK kvs)) : Ev (tCB (rIsi K) (tCons te (tCons (tC (.ty "dict")) tNil))) σ H (.bl true) := isi_of h (fun _ e => .base (.dK (e _ _ hp))) (kit_ty (by decide +kernel))
theorem isi_LT {p : Addr} {xs : List V} (h : Ev te σ H (.ref p)) (hp : H p = some (.lst xs)) : Ev (tCB (rIsiT K) (tCons te (tCons (tTup (tCons (tC (.ty "list")) (tCons (tC (.ty "tuple")) tNil))) tNil))) σ H (.bl true) := fun H1 e Q q =>
  h H1 e _ fun H2 e2 => ⟨by show 2 ≤ sizeLine; exact sz_of (by decide), fun t nt => ⟨.ref p, t, [.ty "list", .ty "tuple"], .type "list", [.type "list", .type "tuple"], true, rfl, upd_same, .cons (.ty _) (.cons (.ty _) .nil), .base (.lst ((upd_ne (ne_of_none (e2 _ _ (e _ _ hp)) nt)).trans (e2 _ _ (e _ _ hp)))), (by
    have h1 : PySem.W.kitOne K (.type "list") (.type "list") = some true := kit_ty (by decide +kernel)
    have h2 : PySem.W.kitOne K (.type "list") (.type "tuple") = some false := kit_ty (by decide +kernel)
    simp [PySem.W.kitAny, h1]), q _ (e2.trans (Ex.new nt))⟩⟩
/-- a .. b .. c in a chain of two comparisons -/
theorem ev_chain {f g : Int → Int → Bool} {i j k : Int} (ha : Ev ta σ H (.int i)) (hb : Ev tb σ H (.int j)) (hc : Ev tc σ H (.int k)) :
    Ev (tChain (rI0 fun i j => .bl (f i j)) (rI0 fun i j => .bl (g i j)) ta tb tc) σ H (.bl (f i j && g j k)) := fun H1 e Q q =>
  ha H1 e _ fun H2 e2 => hb H2 (e.trans e2) _ fun H3 e3 => ⟨i, j, rfl, rfl, f i j, rfl, by
    by_cases hf : f i j = true
    · rw [if_pos hf]
      exact hc H3 ((e.trans e2).trans e3) _ fun H4 e4 => ⟨j, k, rfl, rfl, by
        have := q H4 ((e2.trans e3).trans e4)
        rw [hf] at this
        exact this⟩
    · rw [if_neg hf]
      have := q H3 (e2.trans e3)
      rw [Bool.eq_false_iff.mpr hf] at this
      exact this⟩
theorem ev_lenT {p : Addr} {xs : List V} (ha : Ev ta σ H (.ref p)) (h : H p = some (.tup xs)) : Ev (tCB (rLenS K) (tCons ta tNil)) σ H (.int (xs.length : Int)) := fun H1 e Q q =>
  ha H1 e _ fun H2 e2 => ⟨p, xs, rfl, Or.inr (st_of (e2 _ _ (e _ _ h))), q H2 e2⟩
theorem ev_lenStr {z : Str} (ha : Ev ta σ H (.str z)) (h : z.length ≤ 100000) : Ev (tCB rLenStr (tCons ta tNil)) σ H (.int (z.length : Int)) := fun H1 e Q q =>
  ha H1 e _ fun H2 e2 => ⟨z, rfl, sz_of h, q H2 e2⟩
/-- t[i] of a tuple, i written -/
theorem ev_ixT {p : Addr} {xs : List V} {i : Nat} (ha : Ev ta σ H (.ref p)) (h : H p = some (.tup xs)) (hx : xs[i]? = some v) : Ev (tOp (rIxT K) ta (tC (.int (i : Int)))) σ H v :=
  ev_op ha ev_c (rv_ixT (st_of h) (atI_nat hx))
theorem ev_isN {b : Bool} (ha : Ev ta σ H v) (e : decide (v = .non) = b) : Ev (tOp rIsNo ta (tC .non)) σ H (.bl b) := ev_op ha ev_c fun H1 _ Q q => ⟨rfl, by rw [e]; exact q H1 (Ex.refl H1)⟩
theorem ev_notN {b : Bool} (ha : Ev ta σ H v) (e : (!decide (v = .non)) = b) : Ev (tOp rNotNo ta (tC .non)) σ H (.bl b) := ev_op ha ev_c fun H1 _ Q q => ⟨rfl, by rw [e]; exact q H1 (Ex.refl H1)⟩
theorem ev_dget {d : Addr} {kvs : List (Key × V)} {k : Key} {td ty : TE} (hd : Ev td σ H (.ref d)) (hy : Ev ty σ H (kV k)) (h : H d = some (.dK kvs)) (hv : valV kvs k = some v) : Ev (tDGet td ty) σ H v := fun H1 e Q q =>
  hd H1 e _ fun H2 e2 => hy H2 (e.trans e2) _ fun H3 e3 => ⟨d, v, rfl, by have := DGet.k (k := k) (e3 _ _ (e2 _ _ (e _ _ h))); rw [hv] at this; exact this, q H3 (e2.trans e3)⟩
theorem ev_din {d : Addr} {kvs : List (Key × V)} {k : Key} {td ty : TE} (hy : Ev ty σ H (kV k)) (hd : Ev td σ H (.ref d)) (h : H d = some (.dK kvs)) : Ev (tDIn ty td) σ H (.bl (valV kvs k).isSome) := fun H1 e Q q =>
  hy H1 e _ fun H2 e2 => hd H2 (e.trans e2) _ fun H3 e3 => ⟨d, _, rfl, DGet.k (e3 _ _ (e2 _ _ (e _ _ h))), q H3 (e2.trans e3)⟩
/-- a call with a value for its answer -/
theorem ev_pcall {pre : Pre} {E : XK} {vs : List V} (h : EvA tl σ H vs) (k : ∀ H1, Ex H H1 → pre vs H1 (Is v)) : Ev (tCall (spP pre) [] E tl) σ H v := ev_evr (evr_call h k)
theorem ev_pcallR {pre : Pre} {E : XK} {P : List V → Hp → Prop} (h : EvAR tl σ H P) (k : ∀ vs H1, Ex H H1 → P vs H1 → pre vs H1 (Is v)) : Ev (tCall (spP pre) [] E tl) σ H v := ev_evr (evr_callR h k)
theorem ev_pmeth {C : Addr} {m : Str} {pre : Pre} {E : XK} {vs : List V} {a dx : Addr} {fs : List (Str × V)} (h0 : Ev ta σ H (.ref a)) (hi : H a = some (.ins C dx fs)) (hm : fs.lookup m = none) (h : EvA tl σ H vs) (k : ∀ H1, Ex H H1 → pre (.ref a :: vs) H1 (Is v)) :
    Ev (tMeth C m (spP pre) [] E ta tl) σ H v := ev_evr (evr_meth h0 hi hm h k)
/-- one argument, by its word -/
theorem ear_1 {R : RP} (h : EvR te σ H R) (hl : Lasts R) : EvAR (tCons te tNil) σ H (fun us H' => ∃ u, us = [u] ∧ R u H') := fun H1 e Q q =>
  h H1 e _ fun u H2 e2 r => q [u] H2 e2 ⟨u, rfl, r⟩
theorem ret_of {Q : VK} {R : RP} (h : EvR te σ H R) (k : ∀ v H1, Ex H H1 → R v H1 → Q v H1) {n : L2.St → Hp → Prop} : tRet te { nx := n, rt := Q } σ H := s_retR h k
end
/-- if not c: never -/
theorem q_must {D : Ends} {t : TT} {tu tz : TS} {σ : L2.St} {H : Hp} (h : EvT t σ H true) (k : ∀ H1, Ex H H1 → tz D σ H1) : tSeq (tIfS (tNot t) tu tNext) tz D σ H :=
  q_when (et_not h) (fun e => by cases e) fun _ => k
theorem s_must {D : Ends} {t : TT} {σ : L2.St} {H : Hp} (h : EvT t σ H true) (k : ∀ H1, Ex H H1 → D.nx σ H1) : tIfS (tNot t) tNever tNext D σ H := s_when (et_not h) (fun e => by cases e) fun _ => k
theorem q_skip {D : Ends} {t : TT} {tu tz : TS} {σ : L2.St} {H : Hp} (h : EvT t σ H false) (k : ∀ H1, Ex H H1 → tz D σ H1) : tSeq (tIfS t tu tNext) tz D σ H :=
  q_when h (fun e => by cases e) fun _ => k
theorem lasts_of {α : Type} {R : RL α} {a : α} (l : LastsL R) : Lasts (fun u => R u a) := fun v H H' e r => l v a H H' e r
theorem row_at {r : Row} : (rowV r)[0]? = some (.str r.n) ∧ (rowV r)[1]? = some (.int r.f) ∧ (rowV r)[2]? = some (.int r.l) ∧ (rowV r)[3]? = some (.int r.c) ∧ (rowV r)[4]? = some (.int r.r) := ⟨rfl, rfl, rfl, rfl, rfl⟩

/-! ### words -/
theorem rd_is_whole (p : Pm) : Keeps (t_is_whole p) ["thing"] (sp_is_whole p) := fun vs H Q E ⟨R, ⟨n, ev, eR⟩, hq⟩ => by
  subst ev; subst eR
  exact s_ret (ev_is (ev_andV (isi_int (ev_var rfl)) fun _ => ev_notV (isi_bool (ev_var rfl))) rfl) fun H1 e => hq _ _ e rfl
theorem rd_is_within (p : Pm) : Keeps (t_is_within p) ["thing", "low", "high"] (sp_is_within p) := fun vs H Q E ⟨R, ⟨n, a, b, ev, eR⟩, hq⟩ => by
  subst ev; subst eR
  exact s_ret (ev_is (ev_andV (ev_pcall (v := .bl true) (ea_cons (ev_var rfl) ea_nil) fun H1 e => ⟨n, rfl, rfl⟩) fun _ => ev_chain (f := fun i j => decide (i ≤ j)) (g := fun i j => decide (i ≤ j)) (ev_var rfl) (ev_var rfl) (ev_var rfl)) rfl) fun H1 e => hq _ _ e rfl
theorem ev_within {p : Pm} {σ : L2.St} {H : Hp} {ta tb tc : TE} {n a b : Int} (h1 : Ev ta σ H (.int n)) (h2 : Ev tb σ H (.int a)) (h3 : Ev tc σ H (.int b)) (h : a ≤ n ∧ n ≤ b) : Ev (tCall (sp_is_within p) [] E0 (tCons ta (tCons tb (tCons tc tNil)))) σ H (.bl true) :=
  ev_is (ev_pcall (ea_cons h1 (ea_cons h2 (ea_cons h3 ea_nil))) fun H1 e => ⟨n, a, b, rfl, rfl⟩) (by rw [decide_eq_true h.1, decide_eq_true h.2]; rfl)
/-! ### walks over a text, over enumerate -/
section
variable {K : PySem.W.Frag} {g : TG} {tb : TS} {D : Ends} {σ : L2.St} {H : Hp}
theorem for_enum {a : Addr} {xs : List V} (Pv : Nat → L2.St → Hp → Prop) (h0 : Pv 0 σ H) (hl : ∀ i σ H, i ≤ xs.length → Pv i σ H → SqL K H a xs)
    (hs : ∀ i x T σ H, xs[i]? = some x → Pv i σ H → H T = none → g (.ref T) σ (upd H T (.tup [.int (i : Nat), x])) fun σ2 H2 => tb { D with nx := Pv (i + 1), ct := Pv (i + 1), bk := D.nx } σ2 H2) (hd : ∀ σ H, Pv xs.length σ H → D.nx σ H) :
    ∃ W : Nat → Nat → L2.St → Hp → Prop, (∃ m, W 0 m σ H) ∧ ∀ i m σ H, W i m σ H →
      ((Ite K a).stop i H ∧ D.nx σ H) ∨ ((Ite K a).go i H ∧ ∃ N : L2.St → Hp → Prop, (∀ σ' H', N σ' H' → ∃ m', m' < m ∧ W (i + 1) m' σ' H') ∧ ∀ x H', (Ite K a).yld i H x H' → g x σ H' fun σ2 H2 => tb { D with nx := N, ct := N, bk := D.nx } σ2 H2) := by
  refine ⟨fun i m σ H => m = xs.length - i ∧ i ≤ xs.length ∧ Pv i σ H, ⟨xs.length, by simp, Nat.zero_le _, h0⟩, ?_⟩
  rintro i m σ H ⟨rfl, hi, p⟩
  have q := hl i σ H hi p
  by_cases hlt : i < xs.length
  · refine .inr ⟨⟨xs, xs[i], q, by simp [hlt]⟩, Pv (i + 1), fun σ' H' p' => ⟨xs.length - (i + 1), by omega, rfl, hlt, p'⟩, fun x H' y => ?_⟩
    obtain ⟨T, z, e1, e2, e3, y⟩ := y
    subst e1; subst e3
    exact hs i z T σ _ (y xs q) p e2
  · have e : i = xs.length := by omega
    subst e
    exact .inl ⟨⟨xs, q, Nat.le_refl _⟩, hd σ H p⟩
end
def RSign : RL Nat := fun v c _ => v = .str ⟨#[c]⟩
def RBool : RL Bool := fun v c _ => v = .bl c
theorem rbool_lst : Lst RBool := ⟨fun _ _ _ _ _ h => h, fun _ _ _ _ _ _ _ _ h => h⟩
theorem are_bool {H : Hp} : ∀ {xs : List V} {ns : List Bool}, Are RBool H xs ns → xs = ns.map V.bl
  | _, _, .nil => rfl
  | _, _, .cons r t => by
    have e : _ = V.bl _ := r
    rw [e, are_bool t]; rfl
section
variable {β : Type} {σ : L2.St} {H : Hp} {g : TG} {tt : TT} {te : TE} {vs : List Nat} {RB : RL β} {tl : TE} {z : Str} {f : Nat → Bool} {h : Nat → β} {s2 : V → L2.St}
theorem evr_lcS (lB : Lst RB) (src : Ev tl σ H (.str z)) (hn : z.cps.toList.length ≤ 40000)
    (hg : ∀ x H1, ∀ k : L2.St → Hp → Prop, k (s2 x) H1 → g x (wipe σ vs) H1 k) (hw : ∀ x, wipe (s2 x) vs = wipe σ vs)
    (ht : ∀ c H1, Ex H H1 → c ∈ z.cps.toList → EvT tt (s2 (.str ⟨#[c]⟩)) H1 (f c)) (he : ∀ c H1, Ex H H1 → c ∈ z.cps.toList → f c = true → EvR te (s2 (.str ⟨#[c]⟩)) H1 (fun v H2 => RB v (h c) H2)) :
    EvR (tLc (iStr tl) g tt te vs) σ H (NewL RB ((z.cps.toList.filter f).map h)) := fun H0 e Q q => src H0 e _ fun H1 e1 => ⟨z, rfl, fun D hD => by
  refine ⟨fun i m H' => m = z.cps.toList.length - i ∧ i ≤ z.cps.toList.length ∧ CompInv RB f h z.cps.toList H1 D i H', ⟨z.cps.toList.length, by simp, Nat.zero_le _, comp_start hD⟩, ?_⟩
  rintro i m H' ⟨rfl, hi, p⟩
  by_cases hlt : i < z.cps.toList.length
  · refine .inr ⟨by show i < z.cps.size; simpa using hlt, CompInv RB f h z.cps.toList H1 D (i + 1), fun H' p' => ⟨z.cps.toList.length - (i + 1), by omega, rfl, hlt, p'⟩, fun x H2 y => ?_⟩
    obtain ⟨e2, c, hc, ev⟩ := y
    subst e2; subst ev
    have hb : z.cps.toList[i]? = some c := by rw [Array.getElem?_toList]; exact hc
    have mb := List.mem_of_getElem? hb
    exact hg _ H2 _ ⟨hw _, comp_turn lB hb hn p (ht c H1 (e.trans e1) mb) (he c H1 (e.trans e1) mb)⟩
  · have e' : i = z.cps.toList.length := by omega
    subst e'
    exact .inl ⟨by show z.cps.size ≤ _; simp, comp_end lB e1 rfl p q⟩⟩
end
theorem Nm.len {z : Str} (h : Nm z) : 1 ≤ z.length ∧ z.length ≤ 8 := by
  obtain ⟨c, cs, e, h1, _⟩ := h
  have : z.length = z.cps.toList.length := by simp [Str.length]
  rw [this, e, List.length_cons]
  omega
theorem rd_is_name (p : Pm) : Keeps (t_is_name p) ["thing", "sign"] (sp_is_name p) := fun vs H Q E ⟨R, ⟨z, ev, hz, eR⟩, hq⟩ => by
  subst ev; subst eR
  have hl := hz.len
  have ez : z.length = z.cps.toList.length := by simp [Str.length]
  obtain ⟨c, cs, e, h1, h2, h3⟩ := id hz
  have test : EvT (tOr (tNot (tB (tCB (rIsi p.K) (tCons (tVar 0) (tCons (tC (.ty "str")) tNil))))) (tOr (tNot (tTest (tChain rLeI rLeI (tC (.int 1)) (tCB rLenStr (tCons (tVar 0) tNil)) (tC (.int 8))))) (tTest (tOp rNotInSign (tOp rIxS (tVar 0) (tC (.int 0))) (tC (.str "abcdefghijklmnopqrstuvwxyz"))))))
      (start ["thing", "sign"] [.str z]) H false :=
    et_is (et_or (et_not (et_B (isi_str (ev_var rfl)))) fun _ => et_or (et_not (et_test (ev_chain (f := fun i j => decide (i ≤ j)) (g := fun i j => decide (i ≤ j)) ev_c (ev_lenStr (ev_var rfl) (by omega)) ev_c))) fun _ => et_test (b := false)
      (ev_op (ev_op (ev_var rfl) ev_c (rv_ixS (i := 0) (c := c) (by omega) (atI_nat (j := 0) (by rw [e]; rfl)))) ev_c fun H1 _ Q q => ⟨c, _, rfl, rfl, by
        have : decide (c ∈ letters.cps.toList) = true := decide_eq_true h2
        rw [this]; exact q H1 (Ex.refl H1)⟩))
      (by rw [decide_eq_true (show (1 : Int) ≤ (z.length : Int) by omega), decide_eq_true (show (z.length : Int) ≤ 8 by omega)]; rfl)
  refine q_skip test fun H1 e1 => ?_
  have hall : EvR (tLc (iStr (tVar 0)) (gName 1) tYes (tOp rInSign (tVar 1) (tOp rCatS (tC (.str "abcdefghijklmnopqrstuvwxyz")) (tC (.str "0123456789")))) [1]) (start ["thing", "sign"] [.str z]) H1 (NewL RBool ((z.cps.toList.filter fun _ => true).map fun _ => true)) :=
    evr_lcS rbool_lst (s2 := fun x => [some (.str z), some x]) (ev_var rfl) (by omega) (fun x H1 k hk => hk) (fun x => rfl) (fun c H1 _ _ => et_yes) fun d H2 _ hd _ => evr_ev (ev_op (ev_var rfl) (ev_op ev_c ev_c fun H1 _ Q q => ⟨letters, figures, rfl, rfl, sz_of (by decide +kernel), q H1 (Ex.refl H1)⟩) fun H1 _ Q q => ⟨d, letters ++ figures, rfl, rfl, by
      have hm : d ∈ (letters ++ figures).cps.toList := by
        have := h3 d (by rw [← e]; exact hd)
        have e2 : (letters ++ figures).cps.toList = letters.cps.toList ++ figures.cps.toList := by decide +kernel
        rw [e2]; exact this
      rw [decide_eq_true hm]; exact q H1 (Ex.refl H1)⟩)
  refine s_ret (v := .bl true) (fun H2 e2 Q' q' => (ear_1 hall fun v H H' ex ⟨a, xs, h1, h2, h3⟩ => ⟨a, xs, h1, ex _ _ h2, h3.mono rbool_lst.l ex⟩) H2 e2 _ fun us H3 e3 ⟨u, eu, a, xs, hu, ha, hx⟩ => ?_) fun H2 e2 => hq _ _ (e1.trans e2) rfl
  subst eu; subst hu
  refine ⟨a, _, rfl, sq_of (by rw [ha, are_bool hx]), ?_⟩
  have : ((z.cps.toList.filter fun _ => true).map fun _ => true).all id = true := by simp
  rw [this]
  exact q' H3 e3
/-! ### stretches -/
theorem ev_num {i j : Int} {te : TE} {σ : L2.St} {H : Hp} (h : Ev te σ H (.int i)) (e : i = j) : Ev te σ H (.int j) := e ▸ h
theorem rd_is_stretch (p : Pm) : Keeps (t_is_stretch p) ["thing"] (sp_is_stretch p) := fun vs H Q E ⟨R, ⟨v, q, ev, hv, ⟨h1, h2, h3, h4⟩, eR⟩, hq⟩ => by
  subst ev; subst eR
  obtain ⟨a, rfl, ha⟩ := hv
  refine q_skip (et_is (et_or (et_not (et_B (isi_tup (ev_var rfl) ha))) fun _ => et_or (et_test (ev_op (ev_lenT (ev_var rfl) ha) ev_c (rv_ne rfl))) fun _ => et_not (et_B (ev_within (n := q.1) (a := 0) (b := 200) (ev_ixT (i := 0) (ev_var rfl) ha rfl) ev_c (ev_op ev_c ev_c rv_I0) ⟨h1, h2⟩))) rfl) fun H1 e1 => ?_
  exact s_ret (ev_within (n := q.2) (a := q.1 - 1) (b := 199) (ev_ixT (i := 1) (ev_var rfl) (e1 _ _ ha) rfl) (ev_op (ev_ixT (i := 0) (ev_var rfl) (e1 _ _ ha) rfl) ev_c rv_I0) ev_c ⟨h3, h4⟩) fun H2 e2 => hq _ _ (e1.trans e2) rfl
theorem rd_need_stretch (p : Pm) : Keeps (t_need_stretch p) ["thing"] (sp_need_stretch p) := fun vs H Q E ⟨R, ⟨v, q, ev, hv, hs, eR⟩, hq⟩ => by
  subst ev; subst eR
  exact s_must (et_B (ev_pcall (ea_cons (ev_var rfl) ea_nil) fun H1 e => ⟨v, q, rfl, rpair_lst.l _ _ _ _ e hv, hs, rfl⟩)) fun H1 e1 => hq _ _ e1 rfl
theorem rd_need_failings (p : Pm) : Keeps (t_need_failings p) ["thing"] (sp_need_failings p) := fun vs H Q E ⟨R, ⟨k, ev, hk, eR⟩, hq⟩ => by
  subst ev; subst eR
  exact s_must (et_B (ev_within (ev_var rfl) ev_c ev_c hk)) fun H1 e1 => hq _ _ e1 rfl
theorem ev_needS {p : Pm} {σ : L2.St} {H : Hp} {ta : TE} {v : V} {q : Int × Int} (h : Ev ta σ H v) (hv : RPair v q H) (hs : St q.1 q.2) : Ev (tCall (sp_need_stretch p) [] E0 (tCons ta tNil)) σ H .non :=
  ev_pcall (ea_cons h ea_nil) fun H1 e => ⟨v, q, rfl, rpair_lst.l _ _ _ _ e hv, hs, rfl⟩
theorem ev_needF {p : Pm} {σ : L2.St} {H : Hp} {ta : TE} {k : Int} (h : Ev ta σ H (.int k)) (hk : K3 k) : Ev (tCall (sp_need_failings p) [] E0 (tCons ta tNil)) σ H .non :=
  ev_pcall (ea_cons h ea_nil) fun H1 e => ⟨k, rfl, hk, rfl⟩
theorem rd_room (p : Pm) : Keeps (t_room p) ["stretch"] (sp_room p) := fun vs H Q E ⟨R, ⟨v, q, ev, hv, hs, eR⟩, hq⟩ => by
  subst ev; subst eR
  refine q_drop (ev_needS (ev_var rfl) hv hs) fun H1 e1 => ?_
  obtain ⟨a, rfl, ha⟩ := hv
  exact s_ret (ev_op (ev_op (ev_ixT (i := 1) (ev_var rfl) (e1 _ _ ha) rfl) (ev_ixT (i := 0) (ev_var rfl) (e1 _ _ ha) rfl) rv_I0) ev_c rv_I0) fun H2 e2 => hq _ _ (e1.trans e2) rfl
end Fs

set_option Elab.async false
set_option linter.all false
set_option maxRecDepth 100000
set_option maxHeartbeats 4000000
/-! READINGS -/
namespace Fs
open PySem PySem.Spec PyProof.Rows L2 Evl
structure PmOk (p : Pm) : Prop where
  cP : Cls p.K p.CP
  nP : NoAttr p.K p.CP "fives"
  cK : Cls p.K p.CK
  nKh : NoAttr p.K p.CK "held"
  nKm : NoAttr p.K p.CK "most"
  cC : Cls p.K p.CC
  nCh : NoAttr p.K p.CC "held"
  nCm : NoAttr p.K p.CC "most"
  nCs : NoAttr p.K p.CC "spot"
  cR : Cls p.K p.CR
  nR1 : NoAttr p.K p.CR "known"
  nR2 : NoAttr p.K p.CR "wanting"
  nR3 : NoAttr p.K p.CR "tried"
  nR4 : NoAttr p.K p.CR "trodden"
  nR5 : NoAttr p.K p.CR "tries"
  nR6 : NoAttr p.K p.CR "finish"
  nR7 : NoAttr p.K p.CR "fallen"
theorem rd_window_fault (p : Pm) : Keeps (t_window_fault p) ["row"] (sp_window_fault p) := fun vs H Q E ⟨R, ⟨v, r, ev, hv, ok, eR⟩, hq⟩ => by
  subst ev; subst eR
  obtain ⟨a, rfl, ha⟩ := hv
  obtain ⟨g1, g2, g3, g4, g5, g6, g7⟩ := ok
  have ix : ∀ (i : Nat) (u : V) (H1 : Hp), Ex H H1 → (rowV r)[i]? = some u → Ev (tOp (rIxT p.K) (tVar 0) (tC (.int (i : Int)))) (start ["row"] [.ref a]) H1 u := fun i u H1 e h => ev_ixT (ev_var rfl) (e _ _ ha) h
  refine q_must (et_B (ev_within (ix 1 (.int r.f) H (Ex.refl H) rfl) ev_c (ev_op ev_c ev_c rv_I0) ⟨g1, by omega⟩)) fun H1 e1 => ?_
  refine q_must (et_B (ev_within (ix 2 (.int r.l) H1 e1 rfl) (ev_max2 ev_c (ev_op (ix 1 (.int r.f) H1 e1 rfl) ev_c rv_I0)) ev_c ⟨by split <;> omega, g3⟩)) fun H2 e2 => ?_
  have e2' := e1.trans e2
  refine q_must (et_B (ev_within (ix 3 (.int r.c) H2 e2' rfl) ev_c ev_c ⟨g4, g5⟩)) fun H3 e3 => ?_
  have e3' := e2'.trans e3
  refine q_skip (et_is (et_and (et_test (ev_op (ev_lenT (ev_var rfl) (e3' _ _ ha)) ev_c (rv_eq rfl))) fun _ => et_not (et_B (ev_within (ix 4 (.int r.r) H3 e3' rfl) ev_c (ix 3 (.int r.c) H3 e3' rfl) ⟨g6, g7⟩))) (by simp)) fun H4 e4 => ?_
  exact s_ret ev_c fun H5 e5 => hq _ _ (e3'.trans (e4.trans e5)) rfl
theorem rd_row_fault (p : Pm) : Keeps (t_row_fault p) ["known", "row"] (sp_row_fault p) := fun vs H Q E ⟨R, ⟨d, kvs, v, r, ev, hd, hv, ok, nm, hn, eR⟩, hq⟩ => by
  subst ev; subst eR
  obtain ⟨a, rfl, ha⟩ := hv
  have ix : ∀ (H1 : Hp), Ex H H1 → Ev (tOp (rIxT p.K) (tVar 1) (tC (.int 0))) (start ["known", "row"] [.ref d, .ref a]) H1 (.str r.n) := fun H1 e => ev_ixT (i := 0) (ev_var rfl) (e _ _ ha) rfl
  refine q_skip (et_is (et_or (et_not (et_B (isi_tup (ev_var rfl) ha))) fun _ => et_not (et_test (ev_chain (f := fun i j => decide (i ≤ j)) (g := fun i j => decide (i ≤ j)) ev_c (ev_lenT (ev_var rfl) ha) ev_c))) rfl) fun H1 e1 => ?_
  refine q_must (et_B (ev_pcall (ea_cons (ix H1 e1) ea_nil) fun H2 e2 => ⟨r.n, rfl, nm, rfl⟩)) fun H2 e2 => ?_
  have e2' := e1.trans e2
  refine q_skip (et_is (et_B (ev_din (k := Sum.inr r.n) (ix H2 e2') (ev_var rfl) (e2' _ _ hd))) (by rw [hn]; rfl)) fun H3 e3 => ?_
  have e3' := e2'.trans e3
  exact s_ret (ev_pcall (ea_cons (ev_var rfl) ea_nil) fun H4 e4 => ⟨.ref a, r, rfl, ⟨a, rfl, e4 _ _ (e3' _ _ ha)⟩, ok, rfl⟩) fun H4 e4 => hq _ _ (e3'.trans e4) rfl
theorem rd_five_of (p : Pm) : Keeps (t_five_of p) ["row"] (sp_five_of p) := fun vs H Q E ⟨R, ⟨v, r, ev, hv, eR⟩, hq⟩ => by
  subst ev; subst eR
  obtain ⟨a, rfl, ha⟩ := hv
  refine q_skip (et_is (et_test (ev_op (ev_lenT (ev_var rfl) ha) ev_c (rv_eq rfl))) (by simp [rowV])) fun H1 e1 => ?_
  exact s_ret (ev_var rfl) fun H2 e2 => hq _ _ (e1.trans e2) rfl
theorem keyed_take {rs : List Row} {xs : List V} {i : Nat} {r : Row} {x : V} (h1 : rs[i]? = some r) (h2 : xs[i]? = some x) : keyed (rs.take (i + 1)) (xs.take (i + 1)) = keyed (rs.take i) (xs.take i) ++ [(Sum.inr r.n, x)] := by
  unfold keyed
  have e1 : rs.take (i + 1) = rs.take i ++ [r] := by rw [List.take_add_one, h1]; rfl
  have e2 : xs.take (i + 1) = xs.take i ++ [x] := by rw [List.take_add_one, h2]; rfl
  have l1 : (rs.take i).length = i := by rw [List.length_take]; have := (List.getElem?_eq_some_iff.mp h1).1; omega
  have l2 : (xs.take i).length = i := by rw [List.length_take]; have := (List.getElem?_eq_some_iff.mp h2).1; omega
  rw [e1, e2, List.zip_append (by rw [l1, l2]), List.map_append]
  rfl
theorem keyed_names {rs : List Row} : ∀ {xs : List V}, rs.length = xs.length → (keyed rs xs).map (·.1) = rs.map fun r => Sum.inr r.n := by
  intro xs h
  unfold keyed
  rw [List.map_map]
  have : ((fun q : Key × V => q.1) ∘ fun q : Row × V => (Sum.inr q.1.n, q.2)) = (fun r : Row => (Sum.inr r.n : Key)) ∘ Prod.fst := rfl
  rw [this, ← List.map_map, List.map_fst_zip (by omega)]
theorem keyed_none {rs : List Row} {xs : List V} {z : Str} (h : rs.length = xs.length) (hz : z ∉ rs.map (·.n)) : valV (keyed rs xs) (Sum.inr z) = none := by
  cases q : valV (keyed rs xs) (Sum.inr z) with
  | none => rfl
  | some v =>
    have := valV_in q
    rw [keyed_names h] at this
    obtain ⟨r, hr, e⟩ := List.mem_map.mp this
    exact absurd (List.mem_map.mpr ⟨r, hr, Sum.inr.inj e⟩) hz
theorem keyed_nodup {rs : List Row} {xs : List V} (h : rs.length = xs.length) (hn : (rs.map (·.n)).Nodup) : ((keyed rs xs).map (·.1)).Nodup := by
  rw [keyed_names h]
  have : (rs.map fun r => (Sum.inr r.n : Key)) = (rs.map (·.n)).map Sum.inr := by rw [List.map_map]; rfl
  rw [this]
  exact List.pairwise_map.mpr (hn.imp fun h e => h (Sum.inr.inj e))
theorem keyed_get {rs : List Row} {xs : List V} (h : rs.length = xs.length) (hn : (rs.map (·.n)).Nodup) {i : Nat} {r : Row} {x : V} (h1 : rs[i]? = some r) (h2 : xs[i]? = some x) : valV (keyed rs xs) (Sum.inr r.n) = some x := by
  have hm : (Sum.inr r.n, x) ∈ keyed rs xs := by
    unfold keyed
    refine List.mem_map.mpr ⟨(r, x), List.mem_of_getElem? (i := i) ?_, rfl⟩
    rw [List.getElem?_zip_eq_some]
    exact ⟨h1, h2⟩
  exact val_nodup (keyed_nodup h hn) _ hm
theorem keyed_vals {rs : List Row} {xs : List V} (h : rs.length = xs.length) : (keyed rs xs).map (·.2) = xs := by
  unfold keyed
  rw [List.map_map]
  have : ((fun q : Key × V => q.2) ∘ fun q : Row × V => (Sum.inr q.1.n, q.2)) = Prod.snd := rfl
  rw [this, List.map_snd_zip (by omega)]
theorem keyed_len {rs : List Row} {xs : List V} (h : rs.length = xs.length) : (keyed rs xs).length = rs.length := by
  unfold keyed
  rw [List.length_map, List.length_zip]; omega
theorem keyed_isSome {rs : List Row} {xs : List V} (h : rs.length = xs.length) (hn : (rs.map (·.n)).Nodup) (z : Str) : (valV (keyed rs xs) (Sum.inr z)).isSome = decide (z ∈ rs.map (·.n)) := by
  by_cases hz : z ∈ rs.map (·.n)
  · obtain ⟨r, hr, rfl⟩ := List.mem_map.mp hz
    obtain ⟨i, hi, e⟩ := List.mem_iff_getElem.mp hr
    rw [keyed_get h hn (i := i) (r := r) (x := xs[i]'(by omega)) (by rw [← e]; exact List.getElem?_eq_getElem hi) (List.getElem?_eq_getElem _), decide_eq_true hz]; rfl
  · rw [keyed_none h hz, decide_eq_false hz]; rfl
theorem rd_five_rows (p : Pm) : Keeps (t_five_rows p) ["rows", "found", "at", "row", "why"] (sp_five_rows p) := fun vs H Q E ⟨R, ⟨l, xs, rs, ev, hl, ha, hw, eR⟩, hq⟩ => by
  subst ev; subst eR
  have hlen := ha.length
  refine q_must (et_B (isi_LT (ev_var rfl) hl)) fun H1 e1 => ?_
  refine q_skip (et_is (et_test (ev_op (ev_len (ev_var rfl) (sq_of (e1 _ _ hl))) ev_c rv_I0)) (decide_eq_false (by have := hw.len; omega))) fun H2 e2 => ?_
  have e2' := e1.trans e2
  intro d hd
  have hld : l ≠ d := ne_of_none (e2' _ _ hl) hd
  refine ⟨_, rfl, l, xs, rfl, sq_of ((upd_ne hld).trans (e2' _ _ hl)), ?_⟩
  refine for_enum (xs := xs) (D := { nx := tRet (tVar 1) { nx := fun _ H' => Q .non H', rt := Q }, rt := Q }) (fun i σ H' => σ[0]? = some (some (.ref l)) ∧ σ[1]? = some (some (.ref d)) ∧ σ.length = 5 ∧ Ex H2 H' ∧ H' d = some (.dK (keyed (rs.take i) (xs.take i))))
    ⟨rfl, rfl, rfl, Ex.new hd, upd_same⟩ (fun i σ H' _ ⟨_, _, _, e, _⟩ => sq_of (e _ _ (e2' _ _ hl))) (fun i x T σ H' hx ⟨s0, s1, sl, e3, hdd⟩ hT => ?_) (fun σ H' ⟨s0, s1, sl, e3, hdd⟩ => ?_)
  · obtain ⟨r, hr, rr⟩ := ha.get hx
    have hrm := List.mem_of_getElem? hr
    have eH : Ex H H' := e2'.trans e3
    have eT : Ex H' (upd H' T (.tup [.int (i : Nat), x])) := Ex.new hT
    refine ⟨T, [.int (i : Nat), x], rfl, st_of upd_same, rfl, .int (i : Nat), [x], rfl, x, [], rfl, rfl, ?_⟩
    have q0 : ((σ.set 2 (some (.int (i : Nat)))).set 3 (some x))[0]? = some (some (.ref l)) := by simp [s0]
    have q1 : ((σ.set 2 (some (.int (i : Nat)))).set 3 (some x))[1]? = some (some (.ref d)) := by simp [s1]
    have q3 : ((σ.set 2 (some (.int (i : Nat)))).set 3 (some x))[3]? = some (some x) := by rw [List.getElem?_set_self (by rw [List.length_set]; omega)]
    have tl : (rs.take i).length = (xs.take i).length := by rw [List.length_take, List.length_take, hlen]
    have hni : r.n ∉ (rs.take i).map (·.n) := fun hm => by
      have nd := hw.nd
      have e5 : rs = rs.take i ++ rs.drop i := (List.take_append_drop i rs).symm
      rw [e5, List.map_append, List.nodup_append] at nd
      have hdr : r ∈ rs.drop i := List.mem_of_getElem? (i := 0) (by rw [List.getElem?_drop]; exact hr)
      exact nd.2.2 _ hm _ (List.mem_map.mpr ⟨r, hdr, rfl⟩) rfl
    have hnone := keyed_none (z := r.n) tl hni
    have rrT := rrow_lst.l _ _ _ _ (eH.trans eT) rr
    refine q_asg (v := .non) (ev_pcall (ea_cons (ev_var q1) (ea_cons (ev_var q3) ea_nil)) fun H4 e4 => ⟨d, _, x, r, rfl, e4 _ _ (eT _ _ hdd), rrow_lst.l _ _ _ _ e4 rrT, hw.ok r hrm, hw.nm r hrm, hnone, rfl⟩) fun H4 e4 => ?_
    refine q_skip (et_is (et_test (ev_notN (ev_var (v := .non) (by rw [List.getElem?_set_self (by simp [sl])])) rfl)) rfl) fun H5 e5 => ?_
    have e5' := e4.trans e5
    have w1 : ((((σ.set 2 (some (.int (i : Nat)))).set 3 (some x))).set 4 (some V.non))[1]? = some (some (.ref d)) := by simp [s1]
    have w3 : ((((σ.set 2 (some (.int (i : Nat)))).set 3 (some x))).set 4 (some V.non))[3]? = some (some x) := by rw [List.getElem?_set_ne (by decide)]; exact q3
    refine (ev_pcall (v := x) (pre := fun vs H R => ∃ v r, vs = [v] ∧ RRow v r H ∧ R = Is v) (E := E0) (ea_cons (ev_var w3) ea_nil) fun H6 e6 => ⟨x, r, rfl, rrow_lst.l _ _ _ _ (e5'.trans e6) rrT, rfl⟩) H5 (Ex.refl H5) _ fun H6 e6 => ?_
    obtain ⟨a, rfl, hra⟩ := rrT
    refine (ev_var w1) H6 (Ex.refl H6) _ fun H7 e7 => ?_
    refine (ev_ixT (K := p.K) (i := 0) (ev_var w3) (e7 _ _ (e6 _ _ (e5' _ _ hra))) rfl) H7 (Ex.refl H7) _ fun H8 e8 => ?_
    have e9 : Ex (upd H' T (.tup [.int (i : Nat), .ref a])) H8 := (e5'.trans e6).trans (e7.trans e8)
    have hd8 : H8 d = some (.dK (keyed (rs.take i) (xs.take i))) := e9 _ _ (eT _ _ hdd)
    refine ⟨d, _, rfl, DPut.k (k := Sum.inr r.n) hd8 ?_, ?_⟩
    · rw [keyed_len tl]
      refine sz_lt ?_
      rw [List.length_take]; have := hw.len; omega
    · refine ⟨by simp [s0], w1, by simp [sl], ?_, ?_⟩
      · exact Ex.mut (((e3.trans eT).trans e9)) hd
      · rw [upd_same, putK_new _ hnone, keyed_take hr hx]
  · rw [hlen, ← hlen, List.take_length] at hdd
    rw [hlen, List.take_length] at hdd
    exact s_ret (ev_var s1) fun H3 e4 => hq _ _ (e2'.trans (e3.trans e4)) ⟨d, rfl, e4 _ _ hdd⟩
end Fs

set_option Elab.async false
set_option linter.all false
set_option maxRecDepth 100000
set_option maxHeartbeats 4000000
/-! READINGS -/
namespace Fs
open PySem PySem.Spec PyProof.Rows L2 Evl
/-! ### data for == -/
structure Dat {α : Type} [DecidableEq α] (K : PySem.W.Frag) (R : RL α) (G : α → Prop) (d : α → PyData) : Prop where
  dp : ∀ v a H, R v a H → Dp K H v (d a)
  lay : ∀ a, G a → (d a).canLay0 = true
  dep : ∀ a, (d a).depth ≤ 10
  eq : ∀ a b, PyData.eqv (d a) (d b) = decide (a = b)
section
variable {α : Type} [DecidableEq α] {K : PySem.W.Frag} {R : RL α} {G : α → Prop} {d : α → PyData} {H : Hp}
theorem Dat.all (D : Dat K R G d) : ∀ {xs : List V} {as : List α}, Are R H xs as → DpAll K H xs (as.map d)
  | _, _, .nil => .nil
  | _, _, .cons r t => .cons (D.dp _ _ _ r) (Dat.all D t)
theorem Dat.eqAll (D : Dat K R G d) : ∀ as bs : List α, PyData.eqvAll (as.map d) (bs.map d) = decide (as = bs)
  | [], [] => rfl
  | [], b :: bs => rfl
  | a :: as, [] => rfl
  | a :: as, b :: bs => by
    show (PyData.eqv (d a) (d b) && PyData.eqvAll (as.map d) (bs.map d)) = _
    rw [D.eq, Dat.eqAll D as bs]
    by_cases h1 : a = b <;> by_cases h2 : as = bs <;> simp [h1, h2]
theorem Dat.layAll (D : Dat K R G d) : ∀ as : List α, (∀ a ∈ as, G a) → PyData.canLayAll0 (as.map d) = true
  | [], _ => rfl
  | a :: as, g => by
    show ((d a).canLay0 && PyData.canLayAll0 (as.map d)) = true
    rw [D.lay a (g a List.mem_cons_self), Dat.layAll D as fun b hb => g b (List.mem_cons_of_mem _ hb)]; rfl
theorem Dat.depAll (D : Dat K R G d) : ∀ as : List α, PyData.depthAll (as.map d) ≤ 10
  | [] => Nat.zero_le _
  | a :: as => by
    show max (d a).depth (PyData.depthAll (as.map d)) ≤ 10
    have h1 := D.dep a
    have h2 := Dat.depAll D as
    omega
theorem Dat.shape (D : Dat K R G d) (a : α) (g : G a) : SeqAt.shaped (d a) = true := by
  unfold SeqAt.shaped
  rw [D.lay a g, decide_eq_true (by have := D.dep a; omega)]; rfl
theorem Dat.shapeL (D : Dat K R G d) (as : List α) (g : ∀ a ∈ as, G a) : SeqAt.shaped (.list (as.map d)) = true := by
  unfold SeqAt.shaped
  have h1 : (PyData.list (as.map d)).canLay0 = PyData.canLayAll0 (as.map d) := by simp [PyData.canLay0]
  have h2 : (PyData.list (as.map d)).depth = PyData.depthAll (as.map d) + 1 := by simp [PyData.depth, Nat.add_comm]
  rw [h1, D.layAll as g, h2, decide_eq_true (by have := D.depAll as; omega)]; rfl
theorem Dat.shapeT (D : Dat K R G d) (as : List α) (g : ∀ a ∈ as, G a) : SeqAt.shaped (.tuple (as.map d)) = true := by
  unfold SeqAt.shaped
  have h1 : (PyData.tuple (as.map d)).canLay0 = PyData.canLayAll0 (as.map d) := by simp [PyData.canLay0]
  have h2 : (PyData.tuple (as.map d)).depth = PyData.depthAll (as.map d) + 1 := by simp [PyData.depth, Nat.add_comm]
  rw [h1, D.layAll as g, h2, decide_eq_true (by have := D.depAll as; omega)]; rfl
theorem Dat.dpL (D : Dat K R G d) {p : Addr} {xs : List V} {as : List α} (h : H p = some (.lst xs)) (a : Are R H xs as) : Dp K H (.ref p) (.list (as.map d)) := .lst (sq_of h) (D.all a)
theorem Dat.dpT (D : Dat K R G d) {p : Addr} {xs : List V} {as : List α} (h : H p = some (.tup xs)) (a : Are R H xs as) : Dp K H (.ref p) (.tuple (as.map d)) := .tup (st_of h) (D.all a)
theorem Dat.eqL (D : Dat K R G d) (as bs : List α) : PyData.eqv (.list (as.map d)) (.list (bs.map d)) = decide (as = bs) := by
  show PyData.eqvAll _ _ = _
  exact D.eqAll as bs
theorem Dat.eqT (D : Dat K R G d) (as bs : List α) : PyData.eqv (.tuple (as.map d)) (.tuple (bs.map d)) = decide (as = bs) := by
  show PyData.eqvAll _ _ = _
  exact D.eqAll as bs
end
theorem dat_int (K : PySem.W.Frag) : Dat K RInt (fun _ => True) PyData.int := ⟨fun v a H r => by have e : v = .int a := r; rw [e]; exact .int a, fun a _ => by simp [PyData.canLay0], fun a => by simp [PyData.depth], fun a b => by
  show (a == b) = decide (a = b)
  by_cases h : a = b
  · rw [decide_eq_true h]; exact beq_iff_eq.mpr h
  · rw [decide_eq_false h]; exact beq_eq_false_iff_ne.mpr h⟩
theorem nm_ok {z : Str} (h : Nm z) : PyData.strOk z = true := by
  obtain ⟨c, cs, e, _, _, h3⟩ := h
  unfold PyData.strOk
  rw [← Array.all_toList, e, List.all_eq_true]
  intro d hd
  have hl : ∀ x ∈ letters.cps.toList ++ figures.cps.toList, x < 0x110000 := by decide +kernel
  exact decide_eq_true (hl d (h3 d hd))
theorem dat_str (K : PySem.W.Frag) : Dat K RStr Nm PyData.str := ⟨fun v a H r => by have e : v = .str a := r; rw [e]; exact .str a, fun a g => by simp [PyData.canLay0, nm_ok g], fun a => by simp [PyData.depth], fun a b => by
  show (a == b) = decide (a = b)
  by_cases h : a = b
  · rw [decide_eq_true h]; exact beq_iff_eq.mpr h
  · rw [decide_eq_false h]; exact beq_eq_false_iff_ne.mpr h⟩
def rowD (r : Row) : PyData := .tuple [.str r.n, .int r.f, .int r.l, .int r.c, .int r.r]
theorem dat_row (K : PySem.W.Frag) : Dat K RRow (fun r => Nm r.n) rowD := ⟨fun v a H ⟨p, e, h⟩ => by rw [e]; exact .tup (st_of h) (.cons (.str _) (.cons (.int _) (.cons (.int _) (.cons (.int _) (.cons (.int _) .nil))))),
  fun a g => by simp [rowD, PyData.canLay0, PyData.canLayAll0, nm_ok g], fun a => by simp [rowD, PyData.depth, PyData.depthAll], fun a b => by
  show (a.n == b.n && (a.f == b.f && (a.l == b.l && (a.c == b.c && (a.r == b.r && true))))) = decide (a = b)
  rw [Bool.eq_iff_iff, decide_eq_true_eq]
  simp only [Bool.and_eq_true, beq_iff_eq, and_true]
  constructor
  · rintro ⟨h1, h2, h3, h4, h5⟩
    cases a; cases b
    simp_all
  · rintro rfl; exact ⟨rfl, rfl, rfl, rfl, rfl⟩⟩
def pairD (r : Int × Int) : PyData := .tuple [.int r.1, .int r.2]
theorem dat_pair (K : PySem.W.Frag) : Dat K RPair (fun _ => True) pairD := ⟨fun v a H ⟨p, e, h⟩ => by rw [e]; exact .tup (st_of h) (.cons (.int _) (.cons (.int _) .nil)),
  fun a _ => by simp [pairD, PyData.canLay0, PyData.canLayAll0], fun a => by simp [pairD, PyData.depth, PyData.depthAll], fun a b => by
  show (a.1 == b.1 && (a.2 == b.2 && true)) = decide (a = b)
  rw [Bool.eq_iff_iff, decide_eq_true_eq]
  simp only [Bool.and_eq_true, beq_iff_eq, and_true]
  constructor
  · rintro ⟨h1, h2⟩
    exact Prod.ext h1 h2
  · rintro rfl; exact ⟨rfl, rfl⟩⟩
end Fs

set_option Elab.async false
set_option linter.all false
set_option maxRecDepth 100000
set_option maxHeartbeats 4000000
/-! READINGS -/
namespace Fs
open PySem PySem.Spec PyProof.Rows L2 Evl
/-! ### lists and tuples by their words -/
section
variable {K : PySem.W.Frag} {σ : L2.St} {H : Hp} {te ta tb : TE} {α : Type} {R : RL α} {as bs : List α}
theorem evr_listT (h : EvR te σ H (NewT R as)) (lR : Lst R) : EvR (tCB (rListS K) (tCons te tNil)) σ H (NewL R as) := fun H1 e Q q =>
  h H1 e _ fun v H2 e2 ⟨p, xs, ev, hp, ar⟩ => ⟨p, xs, by rw [ev], Or.inr (st_of hp), fun l hl => q _ _ (e2.trans (Ex.new hl)) ⟨l, xs, rfl, upd_same, ar.mono lR.l (Ex.new hl)⟩⟩
theorem evr_cat (ha : EvR ta σ H (NewL R as)) (hb : EvR tb σ H (NewL R bs)) (lR : Lst R) (hn : as.length + bs.length ≤ 100000) : EvR (tOp rCat ta tb) σ H (NewL R (as ++ bs)) := fun H1 e Q q =>
  ha H1 e _ fun u H2 e2 ⟨p, xs, eu, hp, ax⟩ => hb H2 (e.trans e2) _ fun v H3 e3 ⟨p', ys, ev, hp', ay⟩ => ⟨p, p', xs, ys, eu, ev, e3 _ _ hp, hp', sz_of (by rw [ax.length, ay.length]; exact hn), fun l hl =>
    q _ _ ((e2.trans e3).trans (Ex.new hl)) ⟨l, xs ++ ys, rfl, upd_same, Are.app (ax.mono lR.l (e3.trans (Ex.new hl))) (ay.mono lR.l (Ex.new hl))⟩⟩
theorem evr_lst1 {a : α} (h : EvR te σ H (fun u => R u a)) (lR : Lst R) : EvR (tLst (tCons te tNil)) σ H (NewL R [a]) := fun H1 e Q q =>
  h H1 e _ fun u H2 e2 r => ⟨sz_of (show 1 ≤ 100000 by decide), fun l hl => q _ _ (e2.trans (Ex.new hl)) ⟨l, [u], rfl, upd_same, .cons (lR.l _ _ _ _ (Ex.new hl) r) .nil⟩⟩
theorem evr_var {v : V} {i : Nat} {R : RP} (h : σ[i]? = some (some v)) (l : Lasts R) (r : R v H) : EvR (tVar i) σ H R := fun H1 e Q q => ⟨v, h, q v H1 (Ex.refl H1) (l v H H1 e r)⟩
theorem evr_of {v : V} {R : RP} (h : Ev te σ H v) (l : Lasts R) (r : R v H) : EvR te σ H R := fun H1 e Q q => h H1 e _ fun H2 e2 => q v H2 e2 (l v H H2 (e.trans e2) r)
theorem evr_cast (e : as = bs) (h : EvR te σ H (NewL R as)) : EvR te σ H (NewL R bs) := e ▸ h
theorem ev_lenL (ha : EvR te σ H (NewL R as)) : Ev (tCB (rLenS K) (tCons te tNil)) σ H (.int (as.length : Int)) := fun H1 e Q q =>
  ha H1 e _ fun u H2 e2 ⟨p, xs, eu, hp, ax⟩ => ⟨p, xs, by rw [eu], Or.inl (sq_of hp), by rw [ax.length]; exact q H2 e2⟩
/-- a tuple of these values -/
abbrev TupV (xs : List V) : RP := fun u H => ∃ p, u = .ref p ∧ H p = some (.tup xs)
theorem tupV_lasts (xs : List V) : Lasts (TupV xs) := fun v H H' e ⟨p, h1, h2⟩ => ⟨p, h1, e _ _ h2⟩
theorem evr_slT {xs ys : List V} {lo hi : Option Int} {tl th : TO} (h : EvR te σ H (TupV xs)) (hl : ∀ H1, Ex H H1 → ∀ Q : Option Int → Hp → Prop, Q lo H1 → tl σ H1 Q) (hh : ∀ H1, Ex H H1 → ∀ Q : Option Int → Hp → Prop, Q hi H1 → th σ H1 Q)
    (hw : ¬ (HT.sIx xs.length 0 lo = 0 ∧ HT.sIx xs.length xs.length hi = xs.length)) (hc : cutV xs lo hi = ys) : EvR (tSl (rSlA K) te tl th) σ H (TupV ys) := fun H1 e Q q =>
  h H1 e _ fun u H2 e2 ⟨p, eu, hp⟩ => hl H2 (e.trans e2) _ (hh H2 (e.trans e2) _ ⟨p, xs, eu, st_of hp, fun z => absurd z hw, fun _ l hl => q _ _ (e2.trans (Ex.new hl)) ⟨l, rfl, by rw [hc]; exact upd_same⟩⟩)
theorem evr_catT {xs ys : List V} (ha : EvR ta σ H (TupV xs)) (hb : EvR tb σ H (TupV ys)) (hx : xs ≠ []) (hy : ys ≠ []) (hn : xs.length + ys.length ≤ 100000) : EvR (tOp (rCatA K) ta tb) σ H (TupV (xs ++ ys)) := fun H1 e Q q =>
  ha H1 e _ fun u H2 e2 ⟨p, eu, hp⟩ => hb H2 (e.trans e2) _ fun v H3 e3 ⟨p', ev, hp'⟩ => ⟨p, p', xs, ys, eu, ev, st_of (e3 _ _ hp), st_of hp', sz_of hn, fun z => absurd z hx, fun _ z => absurd z hy, fun _ _ l hl => q _ _ ((e2.trans e3).trans (Ex.new hl)) ⟨l, rfl, upd_same⟩⟩
theorem evr_tupA {ta : TA} {xs : List V} (h : EvA ta σ H xs) (hn : xs.length ≤ 100000) : EvR (tTup ta) σ H (TupV xs) := fun H1 e Q q =>
  h H1 e _ fun H2 e2 => ⟨sz_of hn, fun l hl => q _ _ (e2.trans (Ex.new hl)) ⟨l, rfl, upd_same⟩⟩
theorem part_none {tz : Unit} : ∀ H1, Ex H H1 → ∀ Q : Option Int → Hp → Prop, Q none H1 → tNoPart σ H1 Q := fun _ _ _ q => q
theorem part_c {i : Int} : ∀ H1, Ex H H1 → ∀ Q : Option Int → Hp → Prop, Q (some i) H1 → tPart (tC (.int i)) σ H1 Q := fun _ _ _ q => ⟨i, rfl, q⟩
end
theorem tupV_row {r : Row} {v : V} {H : Hp} : TupV (rowV r) v H ↔ RRow v r H := Iff.rfl

/-- tuple(d.values()), list(d) -/
theorem evr_vals {σ : L2.St} {H : Hp} {td : TE} {d : Addr} {kvs : List (Key × V)} (h : Ev td σ H (.ref d)) (hd : H d = some (.dK kvs)) : EvR (tCB rTupleV (tCons (tVals td) tNil)) σ H (TupV (kvs.map (·.2))) := fun H1 e Q q =>
  h H1 e _ fun H2 e2 => ⟨d, kvs, rfl, e2 _ _ (e _ _ hd), fun x hx => ⟨x, d, kvs, rfl, upd_same, (upd_ne (ne_of_none (e2 _ _ (e _ _ hd)) hx)).trans (e2 _ _ (e _ _ hd)), fun t ht => q _ _ ((e2.trans (Ex.new hx)).trans (Ex.new ht)) ⟨t, rfl, upd_same⟩⟩⟩
/-- .. a new object -/
def EvN (te : TE) (σ : L2.St) (H : Hp) (R : RP) : Prop := ∀ H1, Ex H H1 → ∀ Q : VK, (∀ a H2, H1 a = none → Ex H1 H2 → R (.ref a) H2 → Q (.ref a) H2) → te σ H1 Q
theorem EvN.r {te : TE} {σ : L2.St} {H : Hp} {R : RP} (h : EvN te σ H R) : EvR te σ H R := fun H1 e Q q => h H1 e Q fun a H2 _ e2 r => q _ H2 e2 r
theorem EvN.mono {te : TE} {σ : L2.St} {H H' : Hp} {R : RP} (e : Ex H H') (h : EvN te σ H R) : EvN te σ H' R := fun H1 a Q q => h H1 (e.trans a) Q q
theorem evn_call {σ : L2.St} {H : Hp} {tl : TA} {R : RP} {pre : Pre} {E : XK} {vs : List V} (h : EvA tl σ H vs) (k : ∀ H1, Ex H H1 → pre vs H1 R) : EvN (tCall (spN pre) [] E tl) σ H R := fun H1 a Q q =>
  h H1 a _ fun H2 e2 => ⟨R, by rw [List.append_nil]; exact k H2 (a.trans e2), fun v H3 hv e3 r => q v H3 (fresh_back e2 hv) (e2.trans e3) r⟩
theorem evn_meth {σ : L2.St} {H : Hp} {ta : TE} {tl : TA} {R : RP} {C : Addr} {m : Str} {pre : Pre} {E : XK} {vs : List V} {a dx : Addr} {fs : List (Str × V)} (h0 : Ev ta σ H (.ref a)) (hi : H a = some (.ins C dx fs)) (hm : fs.lookup m = none) (h : EvA tl σ H vs) (k : ∀ H1, Ex H H1 → pre (.ref a :: vs) H1 R) :
    EvN (tMeth C m (spN pre) [] E ta tl) σ H R := fun H1 b Q q =>
  h0 H1 b _ fun H2 e2 => ⟨a, dx, fs, rfl, e2 a _ (b a _ hi), hm, h H2 (b.trans e2) _ fun H3 e3 => ⟨R, by rw [List.append_nil]; exact k H3 ((b.trans e2).trans e3), fun v H4 hv e4 r => q v H4 (fresh_back (e2.trans e3) hv) ((e2.trans e3).trans e4) r⟩⟩
theorem evn_listD {σ : L2.St} {H : Hp} {td : TE} {d : Addr} {kvs : List (Key × V)} (h : Ev td σ H (.ref d)) (hd : H d = some (.dK kvs)) : EvN (tCB rListD (tCons td tNil)) σ H (fun u H' => ∃ t, u = .ref t ∧ H' t = some (.lst (kvs.map fun kv => kV kv.1))) := fun H1 e Q q =>
  h H1 e _ fun H2 e2 => ⟨d, kvs, rfl, e2 _ _ (e _ _ hd), fun t ht => q _ _ (fresh_back e2 ht) (e2.trans (Ex.new ht)) ⟨t, rfl, upd_same⟩⟩

theorem s_retN {te : TE} {σ : L2.St} {H : Hp} {R : RP} {D : Ends} (h : EvN te σ H R) (k : ∀ a H1, H a = none → Ex H H1 → R (.ref a) H1 → D.rt (.ref a) H1) : tRet te D σ H := h H (Ex.refl H) _ k

/-! ### pieces -/
section
variable {p : Pm} {σ : L2.St} {H : Hp} {te ta tb : TE} {v : V} {rs : List Row}
/-- x.fives -/
theorem ev_fives (o : PmOk p) {a dx d : Addr} (h : Ev te σ H (.ref a)) (ha : H a = some (.ins p.CP dx [("fives", .ref d)])) : Ev (tFld p.K te "fives") σ H (.ref d) := ev_fld h ha o.cP o.nP rfl
theorem evr_told (h : Ev te σ H v) (hv : RPc p v rs H) : EvR (tMeth p.CP "told" (sp_Pieces_told p) [] E0 te tNil) σ H (NewT RRow rs) := by
  obtain ⟨hw, a, dx, d, xs, rfl, h1, h2, h3⟩ := hv
  exact evr_meth h h1 rfl ea_nil fun H1 e => ⟨.ref a, rs, rfl, (rpc_lst p).l _ _ _ _ e ⟨hw, a, dx, d, xs, rfl, h1, h2, h3⟩, rfl⟩
theorem ev_row (h : Ev te σ H v) (hv : RPc p v rs H) {tz : TE} {r : Row} (hz : Ev tz σ H (.str r.n)) (hr : r ∈ rs) : EvR (tMeth p.CP "row" (sp_Pieces_row p) [] E0 te (tCons tz tNil)) σ H (fun u => RRow u r) := by
  obtain ⟨hw, a, dx, d, xs, rfl, h1, h2, h3⟩ := hv
  exact evr_meth h h1 rfl (ea_cons hz ea_nil) fun H1 e => ⟨.ref a, rs, r, rfl, (rpc_lst p).l _ _ _ _ e ⟨hw, a, dx, d, xs, rfl, h1, h2, h3⟩, hr, rfl⟩
theorem evn_names (h : Ev te σ H v) (hv : RPc p v rs H) : EvN (tMeth p.CP "names" (sp_Pieces_names p) [] E0 te tNil) σ H (NewL RStr (rs.map (·.n))) := by
  obtain ⟨hw, a, dx, d, xs, rfl, h1, h2, h3⟩ := hv
  exact evn_meth h h1 rfl ea_nil fun H1 e => ⟨.ref a, rs, rfl, (rpc_lst p).l _ _ _ _ e ⟨hw, a, dx, d, xs, rfl, h1, h2, h3⟩, rfl⟩
theorem evr_mkPc (h : EvR te σ H (NewL RRow rs)) (hw : Rws rs) : EvR (tMake p.CP (sp_Pieces_init p) [] E0 (tCons te tNil)) σ H (fun u => RPc p u rs) :=
  evr_makeR (ear_1 h fun v H H' e ⟨l, xs, h1, h2, h3⟩ => ⟨l, xs, h1, e _ _ h2, h3.mono rrow_lst.l e⟩) fun vs H1 e H2 e2 ⟨u, hu, l, xs, h1, h2, h3⟩ => ⟨l, xs, rs, by rw [hu, h1], e2 _ _ h2, h3.mono rrow_lst.l e2, hw, rfl⟩
end
theorem rd_Pieces_init (p : Pm) (o : PmOk p) : Keeps (t_Pieces_init p) ["self", "rows"] (sp_Pieces_init p) := fun vs H Q E ⟨x, dx, as, R, ev, hx, ⟨l, xs, rs, ea, hl, ar, hw, eR⟩, hq⟩ => by
  subst ea; subst ev; subst eR
  refine (evr_call (pre := fun vs H R => ∃ l xs rs, vs = [.ref l] ∧ H l = some (.lst xs) ∧ Are RRow H xs rs ∧ Rws rs ∧ R = fun u H' => ∃ d, u = .ref d ∧ H' d = some (.dK (keyed rs xs))) (ea_cons (ev_var rfl) ea_nil) fun H1 e => ⟨l, xs, rs, rfl, e _ _ hl, ar.mono rrow_lst.l e, hw, rfl⟩) H (Ex.refl H) _ fun v H1 e1 ⟨d, ed, hd⟩ => ?_
  subst ed
  have hx1 := e1 _ _ hx
  refine ⟨.ref x, rfl, x, p.CP, dx, [], rfl, hx1, o.cP, o.nP, by decide, ?_⟩
  have hxd : d ≠ x := fun z => by rw [z, hx1] at hd; cases hd
  refine hq _ (fun b u hb hbx => (upd_ne hbx).trans (e1 _ _ hb)) ⟨hw, x, dx, d, xs, rfl, upd_same, (upd_ne hxd).trans hd, Paired.mapP (ar.mono rrow_lst.l e1) fun v r ⟨q, h1, h2⟩ => ⟨q, h1, (upd_ne fun z => by rw [z, hx1] at h2; cases h2).trans h2⟩⟩
theorem rd_Pieces_told (p : Pm) (o : PmOk p) : Keeps (t_Pieces_told p) ["self"] (sp_Pieces_told p) := fun vs H Q E ⟨R, ⟨v, rs, ev, hv, eR⟩, hq⟩ => by
  subst ev; subst eR
  obtain ⟨hw, a, dx, d, xs, rfl, h1, h2, h3⟩ := hv
  refine s_retR (evr_vals (ev_fives o (ev_var rfl) h1) h2) fun u H1 e1 ⟨t, eu, ht⟩ => hq _ _ e1 ⟨t, xs, eu, ?_, h3.mono rrow_lst.l e1⟩
  rw [ht, keyed_vals h3.length.symm]
theorem rd_Pieces_names (p : Pm) (o : PmOk p) : Keeps (t_Pieces_names p) ["self"] (sp_Pieces_names p) := fun vs H Q E ⟨R, ⟨v, rs, ev, hv, eR⟩, hq⟩ => by
  subst ev; subst eR
  obtain ⟨hw, a, dx, d, xs, rfl, h1, h2, h3⟩ := hv
  refine s_retN (evn_listD (ev_fives o (ev_var rfl) h1) h2) fun u H1 hn e1 ⟨t, eu, ht⟩ => hq _ _ hn e1 ⟨t, (rs.map (·.n)).map V.str, eu, ?_, str_are _⟩
  rw [ht]
  have : (keyed rs xs).map (fun kv => kV kv.1) = (rs.map (·.n)).map V.str := by
    have h5 := keyed_names (rs := rs) (xs := xs) h3.length.symm
    have : (keyed rs xs).map (fun kv => kV kv.1) = ((keyed rs xs).map (·.1)).map kV := by rw [List.map_map]; rfl
    rw [this, h5, List.map_map, List.map_map]; rfl
  rw [this]
theorem rd_Pieces_has (p : Pm) (o : PmOk p) : Keeps (t_Pieces_has p) ["self", "thing"] (sp_Pieces_has p) := fun vs H Q E ⟨R, ⟨v, rs, z, ev, hv, eR⟩, hq⟩ => by
  subst ev; subst eR
  obtain ⟨hw, a, dx, d, xs, rfl, h1, h2, h3⟩ := hv
  exact s_ret (ev_is (ev_andV (isi_str (ev_var rfl)) fun _ => ev_din (k := Sum.inr z) (ev_var rfl) (ev_fives o (ev_var rfl) h1) h2) (by rw [keyed_isSome h3.length.symm hw.nd]; rfl)) fun H1 e1 => hq _ _ e1 rfl
theorem rd_Pieces_row (p : Pm) (o : PmOk p) : Keeps (t_Pieces_row p) ["self", "name"] (sp_Pieces_row p) := fun vs H Q E ⟨R, ⟨v, rs, r, ev, hv, hr, eR⟩, hq⟩ => by
  subst ev; subst eR
  obtain ⟨hw, a, dx, d, xs, rfl, h1, h2, h3⟩ := id hv
  obtain ⟨i, hi, e⟩ := List.mem_iff_getElem.mp hr
  have hri : rs[i]? = some r := by rw [← e]; exact List.getElem?_eq_getElem hi
  obtain ⟨x, hx, rx⟩ := h3.at hri
  refine q_must (et_is (et_B (ev_pmeth (ev_var rfl) h1 rfl (ea_cons (ev_var rfl) ea_nil) fun H1 e1 => ⟨.ref a, rs, r.n, rfl, (rpc_lst p).l _ _ _ _ e1 hv, rfl⟩)) (decide_eq_true (List.mem_map.mpr ⟨r, hr, rfl⟩))) fun H1 e1 => ?_
  exact s_ret (ev_dget (k := Sum.inr r.n) (ev_fives o (ev_var rfl) (e1 _ _ h1)) (ev_var rfl) (e1 _ _ h2) (keyed_get h3.length.symm hw.nd hri hx)) fun H2 e2 => hq _ _ (e1.trans e2) (rrow_lst.l _ _ _ _ (e1.trans e2) rx)
theorem rd_Pieces_with_row (p : Pm) (o : PmOk p) : Keeps (t_Pieces_with_row p) ["self", "row"] (sp_Pieces_with_row p) := fun vs H Q E ⟨R, ⟨v, rs, y, r, ev, hv, hy, hw, eR⟩, hq⟩ => by
  subst ev; subst eR
  have hl := hw.len
  rw [List.length_append, List.length_singleton] at hl
  exact s_retR (evr_mkPc (evr_cat (evr_listT (evr_told (ev_var rfl) hv) rrow_lst) (evr_lst1 (evr_var rfl (lasts_of rrow_lst.l) hy) rrow_lst) rrow_lst (by rw [List.length_singleton]; omega)) hw) fun u H1 e1 r1 => hq _ _ e1 r1
theorem Rws.sub {rs qs : List Row} (h : Rws rs) (s : qs.Sublist rs) : Rws qs :=
  ⟨fun r hr => h.ok r (s.subset hr), h.nd.sublist (s.map _), Nat.le_trans s.length_le h.len, fun r hr => h.nm r (s.subset hr)⟩
theorem names_inj : ∀ {rs : List Row}, (rs.map (·.n)).Nodup → ∀ {a b : Row}, a ∈ rs → b ∈ rs → a.n = b.n → a = b
  | x :: l, h, a, b, ha, hb, e => by
    have h1 : x.n ∉ l.map (·.n) ∧ (l.map (·.n)).Nodup := List.nodup_cons.mp h
    rcases List.mem_cons.mp ha with ea | ha
    · rcases List.mem_cons.mp hb with eb | hb
      · rw [ea, eb]
      · exact absurd (List.mem_map.mpr ⟨b, hb, by rw [← e, ea]⟩) h1.1
    · rcases List.mem_cons.mp hb with eb | hb
      · exact absurd (List.mem_map.mpr ⟨a, ha, by rw [e, eb]⟩) h1.1
      · exact names_inj h1.2 ha hb e
/-- x != y of rows -/
theorem et_neRow {K : PySem.W.Frag} {σ : L2.St} {H : Hp} {ta tb : TE} {x y : V} {a b : Row} (ha : Ev ta σ H x) (hb : Ev tb σ H y) (ra : RRow x a H) (rb : RRow y b H) (ga : Nm a.n) (gb : Nm b.n) : EvT (tTest (tOp (rNeD K) ta tb)) σ H (!decide (a = b)) :=
  et_test (ev_op ha hb fun H1 e Q q => ⟨rowD a, rowD b, (dat_row K).dp _ _ _ (rrow_lst.l _ _ _ _ e ra), (dat_row K).dp _ _ _ (rrow_lst.l _ _ _ _ e rb), (dat_row K).shape a ga, (dat_row K).shape b gb, by rw [(dat_row K).eq]; exact q H1 (Ex.refl H1)⟩)
theorem newT_src {K : PySem.W.Frag} {α : Type} {R : RL α} {σ : L2.St} {H : Hp} {te : TE} {as : List α} (h : EvR te σ H (NewT R as)) : EvR te σ H (fun u H' => ∃ a xs, u = .ref a ∧ SqT K H' a xs ∧ Are R H' xs as) :=
  h.imp fun v H1 e ⟨a, xs, h1, h2, h3⟩ => ⟨a, xs, h1, st_of h2, h3⟩
theorem newL_src {K : PySem.W.Frag} {α : Type} {R : RL α} {σ : L2.St} {H : Hp} {te : TE} {as : List α} (h : EvR te σ H (NewL R as)) : EvR te σ H (fun u H' => ∃ a xs, u = .ref a ∧ SqL K H' a xs ∧ Are R H' xs as) :=
  h.imp fun v H1 e ⟨a, xs, h1, h2, h3⟩ => ⟨a, xs, h1, sq_of h2, h3⟩
theorem rd_Pieces_without (p : Pm) (o : PmOk p) : Keeps (t_Pieces_without p) ["self", "name", "row", "other"] (sp_Pieces_without p) := fun vs H Q E ⟨R, ⟨v, rs, r, ev, hv, hr, eR⟩, hq⟩ => by
  subst ev; subst eR
  have hw := hv.1
  refine q_asgR (ev_row (ev_var rfl) hv (ev_var rfl) hr) fun y H1 e1 hy => ?_
  have hv1 := (rpc_lst p).l _ _ _ _ e1 hv
  have hfil : ((rs.filter fun q => !decide (q = r)).map fun q => q) = rs.filter fun q => decide (q.n ≠ r.n) := by
    rw [List.map_id']
    refine List.filter_congr fun q hqm => ?_
    by_cases h : q = r
    · rw [h]; simp
    · have : q.n ≠ r.n := fun z => h (names_inj hw.nd hqm hr z)
      simp [h, this]
  refine s_retR (evr_mkPc (evr_cast hfil (evr_lcT (K := p.K) rrow_lst.l rrow_lst (s2 := fun x => [some v, some (.str r.n), some y, some x]) (newT_src (evr_told (ev_var rfl) hv1)) (by have := hw.len; omega) (fun x a H1 _ k hk => hk) (fun x => rfl)
    (fun x a H2 e2 ha rx => et_neRow (ev_var rfl) (ev_var rfl) rx (rrow_lst.l _ _ _ _ e2 hy) (hw.nm a ha) (hw.nm r hr)) fun x a H2 e2 ha rx _ => evr_var rfl (lasts_of rrow_lst.l) rx)) (hw.sub List.filter_sublist)) fun u H2 e2 r2 => hq _ _ (e1.trans e2) r2
theorem filter_true {α : Type} (l : List α) : l.filter (fun _ => true) = l := List.filter_eq_self.mpr fun _ _ => rfl
theorem rd_Pieces_put_at (p : Pm) (o : PmOk p) : Keeps (t_Pieces_put_at p) ["self", "name", "row", "other"] (sp_Pieces_put_at p) := fun vs H Q E ⟨R, ⟨v, rs, z, y, r, ev, hv, hy, hw, eR⟩, hq⟩ => by
  subst ev; subst eR
  have hl := hv.1.len
  refine s_retR (evr_mkPc (evr_cast (by rw [filter_true]) (evr_lcT (K := p.K) (f := fun _ => true) (h := fun q => if q.n = z then r else q) rrow_lst.l rrow_lst (s2 := fun x => [some v, some (.str z), some y, some x]) (newT_src (evr_told (ev_var rfl) hv)) (by omega) (fun x a H1 _ k hk => hk) (fun x => rfl)
    (fun x a H2 e2 ha rx => et_yes) fun x a H2 e2 ha rx _ => ?_)) hw) fun u H2 e2 r2 => hq _ _ e2 r2
  obtain ⟨b, rfl, hb⟩ := id rx
  have ht : EvT (tTest (tOp rEq (tOp (rIxT p.K) (tVar 3) (tC (.int 0))) (tVar 1))) [some v, some (.str z), some y, some (.ref b)] H2 (decide (V.str a.n = V.str z)) := et_test (ev_op (ev_ixT (i := 0) (ev_var rfl) hb rfl) (ev_var rfl) (rv_eq rfl))
  intro H3 e3 Q' q'
  refine ht H3 e3 _ fun H4 e4 => ?_
  by_cases h : a.n = z
  · rw [if_pos (decide_eq_true (by rw [h]))]
    rw [if_pos h] at q'
    exact ⟨y, rfl, q' _ _ e4 (rrow_lst.l _ _ _ _ ((e2.trans e3).trans e4) hy)⟩
  · rw [if_neg (by rw [decide_eq_true_eq]; exact fun w => h (V.str.inj w))]
    rw [if_neg h] at q'
    exact ⟨.ref b, rfl, q' _ _ e4 (rrow_lst.l _ _ _ _ (e3.trans e4) rx)⟩
theorem rd_Pieces_with_last (p : Pm) (o : PmOk p) : Keeps (t_Pieces_with_last p) ["self", "name", "last", "row"] (sp_Pieces_with_last p) := fun vs H Q E ⟨R, ⟨v, rs, r, l, ev, hv, hr, hw, eR⟩, hq⟩ => by
  subst ev; subst eR
  refine q_asgR (ev_row (ev_var rfl) hv (ev_var rfl) hr) fun y H1 e1 hy => ?_
  have hv1 := (rpc_lst p).l _ _ _ _ e1 hv
  have enew : withLast rs r.n l = rs.map fun q => if q.n = r.n then { r with l := l } else q := by
    unfold withLast
    refine List.map_congr_left fun q hqm => ?_
    by_cases h : q.n = r.n
    · rw [if_pos h, if_pos h, names_inj hv.1.nd hqm hr h]
    · rw [if_neg h, if_neg h]
  have row : EvR (tOp (rCatA p.K) (tOp (rCatA p.K) (tSl (rSlA p.K) (tVar 3) tNoPart (tPart (tC (.int 2)))) (tTup (tCons (tVar 2) tNil))) (tSl (rSlA p.K) (tVar 3) (tPart (tC (.int 3))) tNoPart)) [some v, some (.str r.n), some (.int l), some y] H1 (TupV ([.str r.n, .int r.f] ++ [.int l] ++ [.int r.c, .int r.r])) :=
    evr_catT (evr_catT (evr_slT (xs := rowV r) (lo := none) (hi := some 2) (evr_var rfl (tupV_lasts _) hy) (part_none (tz := ())) part_c (by show ¬ (0 = 0 ∧ 2 = 5); decide) rfl) (evr_tupA (ea_cons (ev_var rfl) ea_nil) (by simp)) (by simp) (by simp) (by simp))
      (evr_slT (xs := rowV r) (lo := some 3) (hi := none) (evr_var rfl (tupV_lasts _) hy) part_c (part_none (tz := ())) (by show ¬ (3 = 0 ∧ 5 = 5); decide) rfl) (by simp) (by simp) (by simp)
  obtain ⟨_, a, dx, d, xs, rfl, h1, _, _⟩ := id hv1
  refine s_retR (evr_methR (P := fun us H' => ∃ y', us = [.str r.n, y'] ∧ RRow y' { r with l := l } H') (ev_var rfl) h1 rfl (fun H2 e2 Q' q' => ⟨_, rfl, row H2 e2 _ fun y' H3 e3 r3 => q' _ H3 e3 ⟨y', rfl, r3⟩⟩) fun us H2 e2 ⟨y', eu, ry⟩ => by
    subst eu
    exact ⟨.ref a, rs, r.n, y', { r with l := l }, rfl, (rpc_lst p).l _ _ _ _ e2 hv1, ry, enew ▸ hw, rfl⟩) fun u H2 e2 r2 => hq _ _ (e1.trans e2) (enew ▸ r2)
end Fs

set_option Elab.async false
set_option linter.all false
set_option maxRecDepth 100000
set_option maxHeartbeats 4000000
/-! READINGS -/
namespace Fs
open PySem PySem.Spec PyProof.Rows L2 Evl
/-! ### loops that append -/
theorem ExB.refl (q : Addr) (H : Hp) : ExB q H H := fun _ _ h _ => h
theorem ExB.trans {q : Addr} {H H1 H2 : Hp} (a : ExB q H H1) (b : ExB q H1 H2) : ExB q H H2 := fun x o h n => b x o (a x o h n) n
theorem ExB.of {q : Addr} {H H' : Hp} (e : Ex H H') : ExB q H H' := fun b o h _ => e b o h
theorem ExB.ex {q : Addr} {H H' : Hp} (e : ExB q H H') (n : H q = none) : Ex H H' := fun b o h => e b o h (ne_of_none h n)
theorem ExB.upd {q : Addr} {H H' : Hp} {o : HO} (e : ExB q H H') : ExB q H (upd H' q o) := fun b u h n => (upd_ne n).trans (e b u h n)
theorem ExB.back {q : Addr} {H0 H H' : Hp} (a : Ex H0 H) (e : ExB q H H') (n : H0 q = none) : Ex H0 H' := fun b o h => e b o (a b o h) (ne_of_none h n)
/-- at D a list of such -/
def AccAt {β : Type} (RB : RL β) (D : Addr) (bs : List β) (H : Hp) : Prop := ∃ ys, H D = some (.lst ys) ∧ Are RB H ys bs
section
variable {K : PySem.W.Frag} {α β : Type} {RA : RL α} {RB : RL β} {g : TG} {tb : TS} {D : Ends} {σ : L2.St} {H H1 : Hp} {te : TE} {a Dl : Addr} {xs : List V} {as : List α} {bs : List β} {f : α → List β} {Sl : L2.St → Prop}
theorem AccAt.ex {H' : Hp} (A : AccAt RB Dl bs H) (lB : Lst RB) (e : Ex H H') : AccAt RB Dl bs H' := by
  obtain ⟨ys, h1, h2⟩ := A
  exact ⟨ys, e _ _ h1, h2.mono lB.l e⟩
theorem Lst.b {R : RL α} (l : Lst R) {q : Addr} {H H' : Hp} {v : V} {b : α} {ys : List V} (hq : H q = some (.lst ys)) (e : ExB q H H') (r : R v b H) : R v b H' := l.m v b H H' q ys hq e r
/-- D.append(e) -/
theorem acc_app {i : Nat} {b : β} (lB : Lst RB) (A : AccAt RB Dl bs H) (hd : σ[i]? = some (some (.ref Dl))) (h : EvR te σ H (fun u => RB u b)) (hn : bs.length < 100000) (k : ∀ H', ExB Dl H H' → AccAt RB Dl (bs ++ [b]) H' → D.nx σ H') :
    tDrop (tBM K "list" rAppend (tVar i) (tCons te tNil)) D σ H := by
  obtain ⟨ys, h1, h2⟩ := A
  refine s_appR h1 (ev_var hd) h (by rw [h2.length]; exact hn) fun v H1 e1 r => k _ ?_ ⟨ys ++ [v], upd_same, ?_⟩
  · exact (ExB.of e1).upd
  · have ch : ∀ v c, RB v c H1 → RB v c (upd H1 Dl (.lst (ys ++ [v]))) := fun w c q => lB.m w c H1 _ Dl ys (e1 _ _ h1) (fun b o e nb => (upd_ne nb).trans e) q
    exact Are.snoc (lB.m v b H1 _ Dl ys (e1 _ _ h1) (fun b o e nb => (upd_ne nb).trans e) r) (Paired.mapP (h2.mono lB.l e1) fun w c q => lB.m w c H1 _ Dl ys (e1 _ _ h1) (fun b o e nb => (upd_ne nb).trans e) q)
theorem acc_for (lA : Lst RA) (lB : Lst RB) (hx : H1 a = some (.lst xs)) (ne : a ≠ Dl) (ar : Are RA H1 xs as) (A0 : AccAt RB Dl bs H1) (s0 : Sl σ)
    (hs : ∀ x b σ' H' cs, b ∈ as → RA x b H' → Sl σ' → ExB Dl H1 H' → AccAt RB Dl cs H' → cs.length ≤ (bs ++ as.flatMap f).length → ∀ N : L2.St → Hp → Prop, (∀ σ3 H3, Sl σ3 → ExB Dl H' H3 → AccAt RB Dl (cs ++ f b) H3 → N σ3 H3) → g x σ' H' fun σ2 H2 => tb { D with nx := N, ct := N, bk := D.nx } σ2 H2)
    (hd : ∀ σ' H', Sl σ' → ExB Dl H1 H' → AccAt RB Dl (bs ++ as.flatMap f) H' → D.nx σ' H') :
    ∃ W : Nat → Nat → L2.St → Hp → Prop, (∃ m, W 0 m σ H1) ∧ ∀ i m σ H, W i m σ H →
      ((Itl K a).stop i H ∧ D.nx σ H) ∨ ((Itl K a).go i H ∧ ∃ N : L2.St → Hp → Prop, (∀ σ' H', N σ' H' → ∃ m', m' < m ∧ W (i + 1) m' σ' H') ∧ ∀ x H', (Itl K a).yld i H x H' → g x σ H' fun σ2 H2 => tb { D with nx := N, ct := N, bk := D.nx } σ2 H2) := by
  refine for_list (xs := xs) (fun i σ H' => Sl σ ∧ ExB Dl H1 H' ∧ AccAt RB Dl (bs ++ (as.take i).flatMap f) H') ⟨s0, ExB.refl _ _, by simpa using A0⟩ (fun i σ H' _ ⟨_, e, _⟩ => sq_of (e _ _ hx ne)) (fun i x σ' H' hi ⟨p1, p2, p3⟩ => ?_) (fun σ' H' ⟨p1, p2, p3⟩ => hd σ' H' p1 p2 (by rw [ar.length, List.take_length] at p3; exact p3))
  obtain ⟨b, hb, rb⟩ := ar.get hi
  obtain ⟨ys, hD, _⟩ := id A0
  have tk : as.take (i + 1) = as.take i ++ [b] := by rw [List.take_add_one, hb]; rfl
  have hl : (bs ++ (as.take i).flatMap f).length ≤ (bs ++ as.flatMap f).length := by
    have : as = as.take i ++ as.drop i := (List.take_append_drop i as).symm
    rw [List.length_append, List.length_append]
    conv => rhs; rw [this, List.flatMap_append, List.length_append]
    omega
  refine hs x b σ' H' _ (List.mem_of_getElem? hb) (lA.b hD p2 rb) p1 p2 p3 hl _ fun σ3 H3 q1 q2 q3 => ⟨q1, p2.trans q2, ?_⟩
  rw [tk, List.flatMap_append]
  simpa [List.append_assoc] using q3
end
/-! ### the rows within, the weighing -/
section
variable {p : Pm} {σ : L2.St} {H : Hp} {ta tb te : TE} {v s : V} {rs : List Row} {q : Int × Int}
theorem evr_within (h1 : Ev ta σ H v) (h2 : Ev tb σ H s) (hv : RPc p v rs H) (hs : RPair s q H) (st : St q.1 q.2) : EvR (tCall (sp_rows_within p) [] E0 (tCons ta (tCons tb tNil))) σ H (NewL RRow (Fm.within rs q.1 q.2)) :=
  evr_call (ea_cons h1 (ea_cons h2 ea_nil)) fun H1 e => ⟨v, rs, s, q, rfl, (rpc_lst p).l _ _ _ _ e hv, rpair_lst.l _ _ _ _ e hs, st, rfl⟩
theorem ev_lefts (h1 : Ev ta σ H v) (h2 : Ev tb σ H s) (hv : RPc p v rs H) (hs : RPair s q H) (st : St q.1 q.2) : Ev (tCall (sp_lefts p) [] E0 (tCons ta (tCons tb tNil))) σ H (.int (Fm.lefts rs q.1 q.2)) :=
  ev_pcall (ea_cons h1 (ea_cons h2 ea_nil)) fun H1 e => ⟨v, rs, s, q, rfl, (rpc_lst p).l _ _ _ _ e hv, rpair_lst.l _ _ _ _ e hs, st, rfl⟩
theorem ev_gl (h1 : Ev ta σ H v) (h2 : Ev tb σ H s) (hv : RPc p v rs H) (hs : RPair s q H) (st : St q.1 q.2) : Ev (tCall (sp_greatest_length p) [] E0 (tCons ta (tCons tb tNil))) σ H (.int (Fm.gl rs q.1 q.2)) :=
  ev_pcall (ea_cons h1 (ea_cons h2 ea_nil)) fun H1 e => ⟨v, rs, s, q, rfl, (rpc_lst p).l _ _ _ _ e hv, rpair_lst.l _ _ _ _ e hs, st, rfl⟩
/-- (a, b) of ints as a pair -/
theorem evr_pair {a b : Int} (h1 : Ev ta σ H (.int a)) (h2 : Ev tb σ H (.int b)) : EvR (tTup (tCons ta (tCons tb tNil))) σ H (fun u => RPair u (a, b)) := evr_tupA (ea_cons h1 (ea_cons h2 ea_nil)) (by simp)
theorem evr_withinR (h1 : Ev ta σ H v) (h2 : EvR tb σ H (fun u => RPair u q)) (hv : RPc p v rs H) (st : St q.1 q.2) : EvR (tCall (sp_rows_within p) [] E0 (tCons ta (tCons tb tNil))) σ H (NewL RRow (Fm.within rs q.1 q.2)) := fun H1 e Q k =>
  h1 H1 e _ fun H2 e2 => h2 H2 (e.trans e2) _ fun s H3 e3 r => ⟨NewL RRow (Fm.within rs q.1 q.2), ⟨v, rs, s, q, rfl, (rpc_lst p).l _ _ _ _ ((e.trans e2).trans e3) hv, r, st, rfl⟩, fun u H4 e4 r4 => k u H4 ((e2.trans e3).trans e4) r4⟩
end
theorem within_len (rs : List Row) (s e : Int) : (Fm.within rs s e).length ≤ rs.length := List.length_filter_le ..
theorem rd_rows_within (p : Pm) : Keeps (t_rows_within p) ["pieces", "stretch", "row"] (sp_rows_within p) := fun vs H Q E ⟨R, ⟨v, rs, s, q, ev, hv, hs, st, eR⟩, hq⟩ => by
  subst ev; subst eR
  refine q_drop (ev_needS (ev_var rfl) hs st) fun H1 e1 => ?_
  have hv1 := (rpc_lst p).l _ _ _ _ e1 hv
  obtain ⟨b, rfl, hb⟩ := rpair_lst.l _ _ _ _ e1 hs
  have hl := hv.1.len
  refine s_retR (evr_cast (by rw [List.map_id']; rfl) (evr_lcT (K := p.K) (f := Fm.inb q.1 q.2) (h := fun r => r) rrow_lst.l rrow_lst (s2 := fun x => [some v, some (.ref b), some x]) (newT_src (evr_told (ev_var rfl) hv1)) (by omega) (fun x a H1 _ k hk => hk) (fun x => rfl)
    (fun x a H2 e2 ha rx => ?_) fun x a H2 e2 ha rx _ => evr_var rfl (lasts_of rrow_lst.l) rx)) fun u H2 e2 r2 => hq _ _ (e1.trans e2) r2
  obtain ⟨c, rfl, hc⟩ := rx
  exact et_and (et_test (ev_op (ev_ixT (i := 1) (ev_var rfl) hc rfl) (ev_ixT (i := 0) (ev_var rfl) (e2 _ _ hb) rfl) rv_I0)) fun _ => et_test (ev_op (ev_ixT (i := 2) (ev_var rfl) hc rfl) (ev_ixT (i := 1) (ev_var rfl) (e2 _ _ hb) rfl) rv_I0)
/-- a list of one of the rows' numbers -/
theorem evr_col {K : PySem.W.Frag} {σ : L2.St} {H : Hp} {tl : TE} {vs : List Nat} {rs : List Row} {i : Nat} {col : Row → Int} {s2 : V → L2.St} {j : Nat} (src : EvR tl σ H (NewL RRow rs)) (hn : rs.length ≤ 40000) (e2 : ∀ x, s2 x = (wipe σ vs).set j (some x)) (hw : ∀ x, wipe (s2 x) vs = wipe σ vs) (hj : ∀ x, (s2 x)[j]? = some (some x)) (hc : ∀ r : Row, (rowV r)[i]? = some (.int (col r))) :
    EvR (tLc (iList K tl) (gName j) tYes (tOp (rIxT K) (tVar j) (tC (.int (i : Int)))) vs) σ H (NewL RInt (rs.map col)) :=
  evr_cast (by rw [filter_true]) (evr_lcL (K := K) (f := fun _ => true) (h := col) rrow_lst.l rint_lst (s2 := s2) (newL_src src) hn (fun x a H1 _ k hk => by rw [e2] at hk; exact hk) hw (fun _ _ _ _ _ _ => et_yes) fun x a H2 _ _ ⟨c, ec, hx⟩ _ => by subst ec; exact evr_ev (ev_ixT (ev_var (hj _)) hx (hc a)))
theorem evr_colT {K : PySem.W.Frag} {σ : L2.St} {H : Hp} {tl : TE} {vs : List Nat} {rs : List Row} {i : Nat} {col : Row → Int} {s2 : V → L2.St} {j : Nat} (src : EvR tl σ H (NewT RRow rs)) (hn : rs.length ≤ 40000) (e2 : ∀ x, s2 x = (wipe σ vs).set j (some x)) (hw : ∀ x, wipe (s2 x) vs = wipe σ vs) (hj : ∀ x, (s2 x)[j]? = some (some x)) (hc : ∀ r : Row, (rowV r)[i]? = some (.int (col r))) :
    EvR (tLc (iTup K tl) (gName j) tYes (tOp (rIxT K) (tVar j) (tC (.int (i : Int)))) vs) σ H (NewL RInt (rs.map col)) :=
  evr_cast (by rw [filter_true]) (evr_lcT (K := K) (f := fun _ => true) (h := col) rrow_lst.l rint_lst (s2 := s2) (newT_src src) hn (fun x a H1 _ k hk => by rw [e2] at hk; exact hk) hw (fun _ _ _ _ _ _ => et_yes) fun x a H2 _ _ ⟨c, ec, hx⟩ _ => by subst ec; exact evr_ev (ev_ixT (ev_var (hj _)) hx (hc a)))
theorem ev_sum {K : PySem.W.Frag} {σ : L2.St} {H : Hp} {te : TE} {ns : List Int} (h : EvR te σ H (NewL RInt ns)) : Ev (tCB (rSum K) (tCons te tNil)) σ H (.int ns.sum) := fun H1 e Q q =>
  h H1 e _ fun u H2 e2 ⟨a, xs, eu, ha, hx⟩ => ⟨a, ns, by rw [eu], sq_of (by rw [ha, are_int hx]), q H2 e2⟩
theorem rd_lefts (p : Pm) : Keeps (t_lefts p) ["pieces", "stretch", "row"] (sp_lefts p) := fun vs H Q E ⟨R, ⟨v, rs, s, q, ev, hv, hs, st, eR⟩, hq⟩ => by
  subst ev; subst eR
  have hl := hv.1.len
  have hl2 := within_len rs q.1 q.2
  exact s_ret (ev_sum (evr_col (i := 4) (col := fun r => r.r) (s2 := fun x => [some v, some s, some x]) (j := 2) (vs := [2]) (evr_within (ev_var rfl) (ev_var rfl) hv hs st) (by omega) (fun x => rfl) (fun x => rfl) (fun x => rfl) fun r => rfl)) fun H2 e2 => hq _ _ e2 rfl
theorem mx_uniq {ns : List Int} {m : Int} (pos : ∀ y ∈ ns, 0 ≤ y) (h1 : m ∈ ns) (h2 : ∀ y ∈ ns, y ≤ m) : m = Fm.mx ns := Fm.mx_eq (.inl h1) (pos m h1) h2
theorem ev_maxD {K : PySem.W.Frag} {σ : L2.St} {H : Hp} {te : TE} {ns : List Int} (h : EvR te σ H (NewL RInt ns)) (pos : ∀ y ∈ ns, 0 ≤ y) : Ev (tCKw (rMaxDef K) (tCons te tNil) (tCons (tC (.int 0)) tNil)) σ H (.int (Fm.mx ns)) := fun H1 e Q q =>
  h H1 e _ fun u H2 e2 ⟨a, xs, eu, ha, hx⟩ => ⟨a, ns, by rw [eu], rfl, sq_of (by rw [ha, are_int hx]), fun e => (by have := q H2 e2; rw [e] at this; exact this), fun m h1 h2 => (by rw [mx_uniq pos h1 h2]; exact q H2 e2)⟩
theorem rd_greatest_length (p : Pm) : Keeps (t_greatest_length p) ["pieces", "stretch", "row"] (sp_greatest_length p) := fun vs H Q E ⟨R, ⟨v, rs, s, q, ev, hv, hs, st, eR⟩, hq⟩ => by
  subst ev; subst eR
  have hl := hv.1.len
  have hl2 := within_len rs q.1 q.2
  have pos : ∀ y ∈ (Fm.within rs q.1 q.2).map (·.c), 0 ≤ y := fun y hy => by
    obtain ⟨r, hr, rfl⟩ := List.mem_map.mp hy
    have := (hv.1.ok r (Fm.mem_within.mp hr).1).c1
    omega
  exact s_ret (ev_maxD (evr_col (i := 3) (col := fun r => r.c) (s2 := fun x => [some v, some s, some x]) (j := 2) (vs := [2]) (evr_within (ev_var rfl) (ev_var rfl) hv hs st) (by omega) (fun x => rfl) (fun x => rfl) (fun x => rfl) fun r => rfl) pos) fun H2 e2 => hq _ _ e2 rfl
end Fs

set_option Elab.async false
set_option linter.all false
set_option maxRecDepth 100000
set_option maxHeartbeats 4000000
/-! READINGS -/
namespace Fs
open PySem PySem.Spec PyProof.Rows L2 Evl
section
variable {K : PySem.W.Frag} {α β : Type} {RA : RL α} {RB : RL β} {g : TG} {tb tz : TS} {D : Ends} {σ : L2.St} {H : Hp} {te tl : TE} {a Dl : Addr} {xs : List V} {as : List α} {bs : List β} {Sl : L2.St → Prop}
theorem q_new {i : Nat} (k : ∀ Dl, H Dl = none → tz D (σ.set i (some (.ref Dl))) (upd H Dl (.lst []))) : tSeq (tAsg (tLst tNil) (gName i)) tz D σ H := ⟨Nat.zero_le _, fun p hp => k p hp⟩
theorem acc_nil (h : H Dl = some (.lst [])) : AccAt RB Dl ([] : List β) H := ⟨[], h, .nil⟩
/-- for over a new list, appending -/
theorem acc_forN {f : α → List β} (lA : Lst RA) (lB : Lst RB) (src : EvN tl σ H (NewL RA as)) (A0 : AccAt RB Dl bs H) (s0 : Sl σ)
    (hs : ∀ x b σ' H' cs, b ∈ as → RA x b H' → Sl σ' → ExB Dl H H' → AccAt RB Dl cs H' → cs.length ≤ (bs ++ as.flatMap f).length → ∀ N : L2.St → Hp → Prop, (∀ σ3 H3, Sl σ3 → ExB Dl H' H3 → AccAt RB Dl (cs ++ f b) H3 → N σ3 H3) → g x σ' H' fun σ2 H2 => tb { D with nx := N, ct := N, bk := D.nx } σ2 H2)
    (hd : ∀ σ' H', Sl σ' → ExB Dl H H' → AccAt RB Dl (bs ++ as.flatMap f) H' → D.nx σ' H') : tFor (iList K tl) g tb D σ H := src H (Ex.refl H) _ fun a H1 hn e1 ⟨a', xs, ea, ha, ar⟩ => by
  cases ea
  have ne : a ≠ Dl := fun z => by obtain ⟨ys, h, _⟩ := A0; rw [z, h] at hn; cases hn
  exact ⟨a, rfl, ⟨xs, sq_of ha⟩, acc_for lA lB ha ne ar (A0.ex lB e1) s0 (fun x b σ' H' cs h1 h2 h3 h4 => hs x b σ' H' cs h1 h2 h3 ((ExB.of e1).trans h4)) fun σ' H' h1 h2 => hd σ' H' h1 ((ExB.of e1).trans h2)⟩
/-- for over a list that is there, in slot i -/
theorem acc_forV {f : α → List β} {i : Nat} (lA : Lst RA) (lB : Lst RB) (hv : σ[i]? = some (some (.ref a))) (ha : H a = some (.lst xs)) (ar : Are RA H xs as) (ne : a ≠ Dl) (A0 : AccAt RB Dl bs H) (s0 : Sl σ)
    (hs : ∀ x b σ' H' cs, b ∈ as → RA x b H' → Sl σ' → ExB Dl H H' → AccAt RB Dl cs H' → cs.length ≤ (bs ++ as.flatMap f).length → ∀ N : L2.St → Hp → Prop, (∀ σ3 H3, Sl σ3 → ExB Dl H' H3 → AccAt RB Dl (cs ++ f b) H3 → N σ3 H3) → g x σ' H' fun σ2 H2 => tb { D with nx := N, ct := N, bk := D.nx } σ2 H2)
    (hd : ∀ σ' H', Sl σ' → ExB Dl H H' → AccAt RB Dl (bs ++ as.flatMap f) H' → D.nx σ' H') : tFor (iList K (tVar i)) g tb D σ H :=
  ⟨.ref a, hv, a, rfl, ⟨xs, sq_of ha⟩, acc_for lA lB ha ne ar A0 s0 hs hd⟩
/-- for .. if ..: return -/
theorem for_find {f : α → Bool} (lA : LastsL RA) (src : EvR tl σ H (NewL RA as)) (s0 : Sl σ)
    (hs : ∀ x b σ' H', b ∈ as → RA x b H' → Sl σ' → Ex H H' → (f b = true → as.find? f = some b) → ∀ N : L2.St → Hp → Prop, (f b = false → ∀ σ3 H3, Sl σ3 → Ex H' H3 → N σ3 H3) → g x σ' H' fun σ2 H2 => tb { D with nx := N, ct := N, bk := D.nx } σ2 H2)
    (hd : as.find? f = none → ∀ σ' H', Sl σ' → Ex H H' → D.nx σ' H') : tFor (iList K tl) g tb D σ H := src H (Ex.refl H) _ fun u H1 e1 ⟨a, xs, eu, ha, ar⟩ => by
  refine ⟨a, eu, ⟨xs, sq_of ha⟩, for_list (xs := xs) (fun i σ H' => Sl σ ∧ Ex H1 H' ∧ ∀ c ∈ as.take i, f c = false) ⟨s0, Ex.refl _, fun c hc => by simp at hc⟩ (fun i σ H' _ ⟨_, e, _⟩ => sq_of (e _ _ ha)) (fun i x σ' H' hi ⟨p1, p2, p3⟩ => ?_) (fun σ' H' ⟨p1, p2, p3⟩ => hd ?_ σ' H' p1 (e1.trans p2))⟩
  · obtain ⟨b, hb, rb⟩ := ar.get hi
    have tk : as.take (i + 1) = as.take i ++ [b] := by rw [List.take_add_one, hb]; rfl
    have hsp : as = as.take i ++ b :: as.drop (i + 1) := by
      have hlt := (List.getElem?_eq_some_iff.mp hb).1
      have : as.drop i = b :: as.drop (i + 1) := by rw [List.drop_eq_getElem_cons hlt, (List.getElem?_eq_some_iff.mp hb).2]
      rw [← this, List.take_append_drop]
    refine hs x b σ' H' (List.mem_of_getElem? hb) (lA _ _ _ _ p2 rb) p1 (e1.trans p2) (fun hf => ?_) _ fun hf σ3 H3 q1 q2 => ⟨q1, p2.trans q2, fun c hc => ?_⟩
    · rw [hsp, List.find?_append, List.find?_eq_none.mpr fun c hc => by rw [p3 c hc]; decide, List.find?_cons_of_pos hf]; rfl
    · rw [tk, List.mem_append] at hc
      rcases hc with hc | hc
      · exact p3 c hc
      · rw [List.mem_singleton.mp hc]; exact hf
  · rw [ar.length, List.take_length] at p3
    exact List.find?_eq_none.mpr fun c hc => by rw [p3 c hc]; decide
end
theorem mul_small {i j : Int} (h1 : i.natAbs < 2 ^ 1000) (h2 : j.natAbs < 2 ^ 1000) : CMulW i j := wide_mul h1 h2 (by decide) (by decide) (by decide)
theorem gl_le {rs : List Row} (ok : Fm.Oks rs) (s e : Int) : Fm.gl rs s e ≤ 12 := Fm.mx_le (by decide) fun a ha => by
  obtain ⟨r, hr, rfl⟩ := List.mem_map.mp ha
  exact (ok r (Fm.mem_within.mp hr).1).c2
theorem small_of {i : Int} (h : -100000 ≤ i ∧ i ≤ 100000) : i.natAbs < 2 ^ 1000 := Nat.lt_of_le_of_lt (show i.natAbs ≤ 100000 by omega) (Nat.lt_of_lt_of_le (show 100000 < 2 ^ 17 by decide) (Nat.pow_le_pow_right (by decide) (by decide)))
theorem rd_need (p : Pm) : Keeps (t_need p) ["pieces", "stretch", "failings"] (sp_need p) := fun vs H Q E ⟨R, ⟨v, rs, s, q, k, ev, hv, hs, st, hk, eR⟩, hq⟩ => by
  subst ev; subst eR
  refine q_drop (ev_needS (ev_var rfl) hs st) fun H1 e1 => q_drop (ev_needF (ev_var rfl) hk) fun H2 e2 => ?_
  have e2' := e1.trans e2
  have hv2 := (rpc_lst p).l _ _ _ _ e2' hv
  have hs2 := rpair_lst.l _ _ _ _ e2' hs
  have g1 := gl_le hv.1.ok q.1 q.2
  have g2 := Fm.gl_nonneg rs q.1 q.2
  exact s_ret (ev_op (ev_lefts (ev_var rfl) (ev_var rfl) hv2 hs2 st) (ev_op (ev_var rfl) (ev_gl (ev_var rfl) (ev_var rfl) hv2 hs2 st) (rv_I (mul_small (small_of ⟨by have := hk.1; omega, by have := hk.2; omega⟩) (small_of ⟨by omega, by omega⟩)))) rv_I0) fun H3 e3 => hq _ _ (e2'.trans e3) rfl
theorem rd_longest (p : Pm) : Keeps (t_longest p) ["pieces", "stretch", "most", "row"] (sp_longest p) := fun vs H Q E ⟨R, ⟨v, rs, s, q, ev, hv, hs, st, hne, eR⟩, hq⟩ => by
  subst ev; subst eR
  refine q_asg (ev_gl (ev_var rfl) (ev_var rfl) hv hs st) fun H1 e1 => ?_
  have hv1 := (rpc_lst p).l _ _ _ _ e1 hv
  have hs1 := rpair_lst.l _ _ _ _ e1 hs
  refine for_find (D := { nx := tRet (tC .non) { nx := fun _ H' => Q .non H', rt := Q }, rt := Q }) (f := fun r : Row => decide (r.c = Fm.gl rs q.1 q.2)) (Sl := fun σ => σ[2]? = some (some (.int (Fm.gl rs q.1 q.2))) ∧ σ.length = 4) rrow_lst.l (evr_within (ev_var rfl) (ev_var rfl) hv1 hs1 st) ⟨rfl, rfl⟩ (fun x r σ' H' hr rx ⟨s2, sl⟩ e2 _ N hN => ?_) fun hno => ?_
  · obtain ⟨a, rfl, ha⟩ := rx
    have s3 : (σ'.set 3 (some (.ref a)))[3]? = some (some (.ref a)) := by rw [List.getElem?_set_self (by omega)]
    refine s_when (et_is (et_test (ev_op (ev_ixT (i := 3) (ev_var s3) ha rfl) (ev_var (by rw [List.getElem?_set_ne (by decide)]; exact s2)) (rv_eq rfl))) rfl) (fun hb H3 e3 => ?_) fun hb H3 e3 => hN ?_ _ _ ⟨by rw [List.getElem?_set_ne (by decide)]; exact s2, by rw [List.length_set]; exact sl⟩ e3
    · have hc : r.c = Fm.gl rs q.1 q.2 := V.int.inj (of_decide_eq_true hb)
      exact s_ret (ev_ixT (i := 0) (ev_var s3) (e3 _ _ ha) rfl) fun H4 e4 => hq _ _ (((e1.trans e2).trans e3).trans e4) ⟨r, (Fm.mem_within.mp hr).1, hc, rfl⟩
    · exact decide_eq_false fun z => by rw [z] at hb; exact absurd rfl (of_decide_eq_false hb)
  · exfalso
    have hpos : ∀ a ∈ (Fm.within rs q.1 q.2).map (·.c), 1 ≤ a := fun a ha => by
      obtain ⟨r, hr, rfl⟩ := List.mem_map.mp ha
      exact (hv.1.ok r (Fm.mem_within.mp hr).1).c1
    have hm := Fm.mx_mem_of hpos fun z => hne (List.map_eq_nil_iff.mp z)
    obtain ⟨r, hr, e⟩ := List.mem_map.mp hm
    have := List.find?_eq_none.mp hno r hr
    exact this (decide_eq_true e)
/-- sorted(set(ns)) -/
theorem evn_sorted {K : PySem.W.Frag} {w : World} {σ : L2.St} {H : Hp} {te : TE} {ns : List Int} (h : EvR te σ H (NewL RInt ns)) (hn : ns.length ≤ 1000) : EvN (tCB (rSortedSetB w) (tCons (tCB (Fs.rSetL K w) (tCons te tNil)) tNil)) σ H (NewL RInt (Fm.srt ns)) := fun H1 e Q q =>
  h H1 e _ fun u H2 e2 ⟨a, xs, eu, ha, hx⟩ => ⟨a, ns, by rw [eu], sq_of (by rw [ha, are_int hx]), hn, fun b c hb => ⟨b, _, c, rfl, upd_same, fun ms l hm1 hm2 hl => by
    have em : ms = Fm.srt ns := Fm.srt_eq hm1 fun k => (hm2 k).trans decide_eq_true_iff
    subst em
    exact q l _ (fresh_back (e2.trans (Ex.new hb)) hl) ((e2.trans (Ex.new hb)).trans (Ex.new hl)) ⟨l, _, rfl, upd_same, int_are _⟩⟩⟩
theorem evn_stretches {p : Pm} {σ : L2.St} {H : Hp} {te : TE} {v : V} {rs : List Row} (h : Ev te σ H v) (hv : RPc p v rs H) : EvN (tCall (sp_stretches p) [] E0 (tCons te tNil)) σ H (NewL RPair (Fm.stretches rs)) :=
  evn_call (ea_cons h ea_nil) fun H1 e => ⟨v, rs, rfl, (rpc_lst p).l _ _ _ _ e hv, rfl⟩
theorem flat_if {α β : Type} (c : α → Bool) (g : α → β) (l : List α) : (l.flatMap fun e => if c e = true then [g e] else []) = (l.filter c).map g := by
  induction l with
  | nil => rfl
  | cons a l ih =>
    rw [List.flatMap_cons, ih, List.filter_cons]
    cases h : c a <;> simp
theorem flat_len {α β : Type} {f : α → List β} {n : Nat} (l : List α) (h : ∀ a, (f a).length ≤ n) : (l.flatMap f).length ≤ l.length * n := by
  induction l with
  | nil => simp
  | cons a l ih => rw [List.flatMap_cons, List.length_append, List.length_cons, Nat.add_mul]; have := h a; omega
theorem starts_st {rs : List Row} (ok : Fm.Oks rs) {s e : Int} (hs : s ∈ Fm.starts rs) (he : e ∈ Fm.ends rs) (h : s - 1 ≤ e) : St s e := by
  obtain ⟨a, ha, rfl⟩ := List.mem_map.mp (Fm.mem_srt.mp hs)
  obtain ⟨b, hb, rfl⟩ := List.mem_map.mp (Fm.mem_srt.mp he)
  have h1 := ok a ha
  have h2 := ok b hb
  exact ⟨h1.f0, by have := h1.fl; have := h1.l1; omega, h, h2.l1⟩
theorem stretches_st {rs : List Row} (ok : Fm.Oks rs) {q : Int × Int} (h : q ∈ Fm.stretches rs) : St q.1 q.2 := by
  have := Fm.mem_stretches.mp h
  exact starts_st ok this.1 this.2.1 this.2.2.1
theorem stretches_len (rs : List Row) : (Fm.stretches rs).length ≤ rs.length * rs.length := by
  unfold Fm.stretches
  refine Nat.le_trans (flat_len (n := rs.length) _ fun s => ?_) (Nat.mul_le_mul_right _ ?_)
  · rw [List.length_map]
    refine Nat.le_trans (List.length_filter_le _ _) ?_
    have := Fm.srt_len (rs.map (·.l))
    rw [List.length_map] at this
    exact this
  · have := Fm.srt_len (rs.map (·.f))
    rw [List.length_map] at this
    exact this
theorem rd_stretches (p : Pm) : Keeps (t_stretches p) ["pieces", "starts", "row", "ends", "found", "start", "end"] (sp_stretches p) := fun vs H Q E ⟨R, ⟨v, rs, ev, hv, eR⟩, hq⟩ => by
  subst ev; subst eR
  have hl := hv.1.len
  have ls := Fm.srt_len (rs.map (·.f))
  have le := Fm.srt_len (rs.map (·.l))
  rw [List.length_map] at ls le
  refine q_asgR (evn_sorted (evr_colT (i := 1) (col := fun r => r.f) (s2 := fun x => [some v, none, some x, none, none, none, none]) (j := 2) (vs := [2]) (evr_told (ev_var rfl) hv) (by omega) (fun x => rfl) (fun x => rfl) (fun x => rfl) fun r => rfl) (by rw [List.length_map]; omega)).r fun u1 H1 e1 ⟨a1, xs1, eu1, ha1, hx1⟩ => ?_
  subst eu1
  have hv1 := (rpc_lst p).l _ _ _ _ e1 hv
  refine q_asgR (evn_sorted (evr_colT (i := 2) (col := fun r => r.l) (s2 := fun x => [some v, some (.ref a1), some x, none, none, none, none]) (j := 2) (vs := [2]) (evr_told (ev_var rfl) hv1) (by omega) (fun x => rfl) (fun x => rfl) (fun x => rfl) fun r => rfl) (by rw [List.length_map]; omega)).r fun u2 H2 e2 ⟨a2, xs2, eu2, ha2, hx2⟩ => ?_
  subst eu2
  have hv2 := (rpc_lst p).l _ _ _ _ e2 hv1
  refine q_new fun D hD => ?_
  have e3 : Ex H2 (upd H2 D (.lst [])) := Ex.new hD
  have hD3 : (upd H2 D (.lst []) : Hp) D = some (.lst []) := upd_same
  have hv3 := (rpc_lst p).l _ _ _ _ e3 hv2
  have ha1' := e3 _ _ (e2 _ _ ha1)
  have ha2' := e3 _ _ ha2
  have ne1 : a1 ≠ D := ne_of_none (e2 _ _ ha1) hD
  have ne2 : a2 ≠ D := ne_of_none ha2 hD
  have hDn : H D = none := fresh_back (e1.trans e2) hD
  refine acc_forV (D := { nx := tRet (tVar 4) { nx := fun _ H' => Q .non H', rt := Q }, rt := Q }) (a := a1) (as := Fm.starts rs) (Dl := D) (bs := []) (RB := RPair)
    (f := fun s => ((Fm.ends rs).filter fun e => decide (s - 1 ≤ e) && !(Fm.within rs s e).isEmpty).map fun e => (s, e))
    (Sl := fun σ => σ[0]? = some (some v) ∧ σ[1]? = some (some (.ref a1)) ∧ σ[3]? = some (some (.ref a2)) ∧ σ[4]? = some (some (.ref D)) ∧ σ.length = 7) rint_lst rpair_lst rfl ha1' (hx1.mono rint_lasts (e2.trans e3)) ne1 (acc_nil hD3) ⟨rfl, rfl, rfl, rfl, rfl⟩
    (fun x s σ' H' cs hs rx ⟨s0, s1, s3, s4, sl⟩ eB A hcl N hN => ?_) fun σ' H' ⟨s0, s1, s3, s4, sl⟩ eB A => ?_
  · have ex : x = .int s := rx
    subst ex
    have w0 : (σ'.set 5 (some (V.int s)))[0]? = some (some v) := by simp [s0]
    have w1 : (σ'.set 5 (some (V.int s)))[1]? = some (some (.ref a1)) := by simp [s1]
    have w3 : (σ'.set 5 (some (V.int s)))[3]? = some (some (.ref a2)) := by simp [s3]
    have w4 : (σ'.set 5 (some (V.int s)))[4]? = some (some (.ref D)) := by simp [s4]
    have w5 : (σ'.set 5 (some (V.int s)))[5]? = some (some (.int s)) := by rw [List.getElem?_set_self (by omega)]
    have wl : (σ'.set 5 (some (V.int s))).length = 7 := by rw [List.length_set]; exact sl
    refine acc_forV (a := a2) (as := Fm.ends rs) (Dl := D) (bs := cs) (RB := RPair) (f := fun e => if (decide (s - 1 ≤ e) && !(Fm.within rs s e).isEmpty) = true then [(s, e)] else [])
      (Sl := fun σ => σ[0]? = some (some v) ∧ σ[1]? = some (some (.ref a1)) ∧ σ[3]? = some (some (.ref a2)) ∧ σ[4]? = some (some (.ref D)) ∧ σ[5]? = some (some (.int s)) ∧ σ.length = 7) rint_lst rpair_lst w3 (eB _ _ ha2' ne2) (Paired.mapP hx2 fun v n q => q) ne2 A ⟨w0, w1, w3, w4, w5, wl⟩
      (fun y e σ2 H4 ds he ry ⟨y0, y1, y3, y4, y5, yl⟩ eB2 A2 hdl N2 hN2 => ?_) fun σ2 H4 ⟨y0, y1, y3, y4, y5, yl⟩ eB2 A2 => hN _ _ ⟨y0, y1, y3, y4, yl⟩ eB2 (by rw [flat_if] at A2; exact A2)
    have ey : y = .int e := ry
    subst ey
    have z0 : (σ2.set 6 (some (V.int e)))[0]? = some (some v) := by simp [y0]
    have z1 : (σ2.set 6 (some (V.int e)))[1]? = some (some (.ref a1)) := by simp [y1]
    have z3 : (σ2.set 6 (some (V.int e)))[3]? = some (some (.ref a2)) := by simp [y3]
    have z4 : (σ2.set 6 (some (V.int e)))[4]? = some (some (.ref D)) := by simp [y4]
    have z5 : (σ2.set 6 (some (V.int e)))[5]? = some (some (.int s)) := by simp [y5]
    have z6 : (σ2.set 6 (some (V.int e)))[6]? = some (some (.int e)) := by rw [List.getElem?_set_self (by omega)]
    have zl : (σ2.set 6 (some (V.int e))).length = 7 := by rw [List.length_set]; exact yl
    obtain ⟨ys, hDy, hyy⟩ := id A2
    have hv4 : RPc p v rs H4 := (rpc_lst p).b hD3 (eB.trans eB2) hv3
    have tst : EvT (tAnd (tTest (tOp rGeI (tVar 6) (tOp rSubI (tVar 5) (tC (.int 1))))) (tTest (tOp (rNeD p.K) (tCall (sp_rows_within p) [] E0 (tCons (tVar 0) (tCons (tTup (tCons (tVar 5) (tCons (tVar 6) tNil))) tNil))) (tLst tNil)))) (σ2.set 6 (some (V.int e))) H4 (decide (s - 1 ≤ e) && !(Fm.within rs s e).isEmpty) := by
      refine et_and (et_test (ev_op (ev_var z6) (ev_op (ev_var z5) ev_c rv_I0) rv_I0)) fun hb => ?_
      have st : St s e := starts_st hv.1.ok hs he (of_decide_eq_true hb)
      refine et_test fun H5 e5 Q' q' => (evr_withinR (p := p) (q := (s, e)) (ev_var z0) (evr_pair (ev_var z5) (ev_var z6)) hv4 st) H5 e5 _ fun u H6 e6 ⟨b, xs, eu, hb2, ar⟩ => ⟨Nat.zero_le _, fun c hc => ?_⟩
      have nb : b ≠ c := ne_of_none hb2 hc
      refine ⟨.list ((Fm.within rs s e).map rowD), .list (([] : List Row).map rowD), ?_, ?_, (dat_row p.K).shapeL _ (fun r hr => hv.1.nm r (Fm.mem_within.mp hr).1), (dat_row p.K).shapeL _ (fun _ hr => by cases hr), ?_⟩
      · rw [eu]; exact (dat_row p.K).dpL ((upd_ne nb).trans hb2) (ar.mono rrow_lst.l (Ex.new hc))
      · exact (dat_row p.K).dpL upd_same .nil
      · rw [(dat_row p.K).eqL]
        have : (!decide (Fm.within rs s e = [])) = !(Fm.within rs s e).isEmpty := by
          cases Fm.within rs s e <;> rfl
        rw [this]
        exact q' _ (e6.trans (Ex.new hc))
    refine s_when tst (fun hb H5 e5 => ?_) fun hb H5 e5 => hN2 _ _ ⟨z0, z1, z3, z4, z5, zl⟩ (ExB.of e5) (by rw [if_neg (by rw [hb]; decide), List.append_nil]; exact A2.ex rpair_lst e5)
    refine acc_app rpair_lst (A2.ex rpair_lst e5) z4 (evr_pair (ev_var z5) (ev_var z6)) ?_ fun H6 e6 A6 => hN2 _ _ ⟨z0, z1, z3, z4, z5, zl⟩ ((ExB.of e5).trans e6) (by rw [if_pos hb]; exact A6)
    have h30 : ∀ m n : Nat, m ≤ 30 → n ≤ 30 → m * n ≤ 900 := fun m n a b => Nat.le_trans (Nat.mul_le_mul a b) (by decide)
    rw [List.length_append] at hdl
    have b1 : ((Fm.ends rs).flatMap fun e => if (decide (s - 1 ≤ e) && !(Fm.within rs s e).isEmpty) = true then [(s, e)] else []).length ≤ (Fm.ends rs).length * 1 := flat_len _ fun a => by split <;> simp
    have b2 : (Fm.ends rs).length ≤ 30 := Nat.le_trans le hl
    have b3 : ([] ++ (Fm.starts rs).flatMap fun s => ((Fm.ends rs).filter fun e => decide (s - 1 ≤ e) && !(Fm.within rs s e).isEmpty).map fun e => (s, e)).length ≤ 900 := by
      rw [List.nil_append]
      have := stretches_len rs
      exact Nat.le_trans this (h30 _ _ hl hl)
    omega
  · obtain ⟨ys, h1, h2⟩ := A
    have eH : Ex H H' := ExB.back ((e1.trans e2).trans e3) eB hDn
    exact s_ret (ev_var s4) fun H4 e4 => hq D H4 hDn (eH.trans e4) ⟨D, ys, rfl, e4 _ _ h1, h2.mono rpair_lst.l e4⟩
end Fs

set_option Elab.async false
set_option linter.all false
set_option maxRecDepth 100000
set_option maxHeartbeats 4000000
/-! READINGS -/
namespace Fs
open PySem PySem.Spec PyProof.Rows L2 Evl
theorem ev_need {p : Pm} {σ : L2.St} {H : Hp} {ta tb tc : TE} {v : V} {rs : List Row} {q : Int × Int} {k : Int} (h1 : Ev ta σ H v) (h2 : EvR tb σ H (fun u => RPair u q)) (h3 : Ev tc σ H (.int k)) (hv : RPc p v rs H) (st : St q.1 q.2) (hk : K3 k) :
    Ev (tCall (sp_need p) [] E0 (tCons ta (tCons tb (tCons tc tNil)))) σ H (.int (Fm.need rs q.1 q.2 k)) := fun H1 e Q k' =>
  h1 H1 e _ fun H2 e2 => h2 H2 (e.trans e2) _ fun s H3 e3 r => h3 H3 ((e.trans e2).trans e3) _ fun H4 e4 => ⟨_, ⟨v, rs, s, q, k, rfl, (rpc_lst p).l _ _ _ _ (((e.trans e2).trans e3).trans e4) hv, rpair_lst.l _ _ _ _ e4 r, st, hk, rfl⟩, fun u H5 e5 r5 => by rw [r5]; exact k' H5 (((e2.trans e3).trans e4).trans e5)⟩
theorem ev_room {p : Pm} {σ : L2.St} {H : Hp} {tb : TE} {q : Int × Int} (h2 : EvR tb σ H (fun u => RPair u q)) (st : St q.1 q.2) : Ev (tCall (sp_room p) [] E0 (tCons tb tNil)) σ H (.int (q.2 - q.1 + 1)) := fun H1 e Q k' =>
  h2 H1 e _ fun s H3 e3 r => ⟨_, ⟨s, q, rfl, r, st, rfl⟩, fun u H5 e5 r5 => by rw [r5]; exact k' H5 (e3.trans e5)⟩
theorem flat_one {α β : Type} (g : α → β) (l : List α) : (l.flatMap fun e => [g e]) = l.map g := by
  induction l with
  | nil => rfl
  | cons a l ih => rw [List.flatMap_cons, ih]; rfl
theorem rd_table (p : Pm) : Keeps (t_table p) ["pieces", "failings", "found", "start", "end"] (sp_table p) := fun vs H Q E ⟨R, ⟨v, rs, k, ev, hv, hk, eR⟩, hq⟩ => by
  subst ev; subst eR
  have hl := hv.1.len
  refine q_drop (ev_needF (ev_var rfl) hk) fun H1 e1 => q_new fun D hD => ?_
  have e2 : Ex H1 (upd H1 D (.lst [])) := Ex.new hD
  have hD3 : (upd H1 D (.lst []) : Hp) D = some (.lst []) := upd_same
  have hv2 := (rpc_lst p).l _ _ _ _ (e1.trans e2) hv
  have hDn : H D = none := fresh_back e1 hD
  refine acc_forN (D := { nx := tRet (tVar 2) { nx := fun _ H' => Q .non H', rt := Q }, rt := Q }) (as := Fm.stretches rs) (Dl := D) (bs := []) (RB := RQuad) (f := fun q => [(q.1, q.2, Fm.need rs q.1 q.2 k, q.2 - q.1 + 1)])
    (Sl := fun σ => σ[0]? = some (some v) ∧ σ[1]? = some (some (.int k)) ∧ σ[2]? = some (some (.ref D)) ∧ σ.length = 5) rpair_lst rquad_lst (evn_stretches (ev_var rfl) hv2) (acc_nil hD3) ⟨rfl, rfl, rfl, rfl⟩
    (fun x q σ' H' cs hq' rx ⟨s0, s1, s2, sl⟩ eB A hcl N hN => ?_) fun σ' H' ⟨s0, s1, s2, sl⟩ eB A => ?_
  · obtain ⟨a, rfl, ha⟩ := rx
    refine ⟨a, [.int q.1, .int q.2], rfl, st_of ha, rfl, .int q.1, [.int q.2], rfl, .int q.2, [], rfl, rfl, ?_⟩
    have w0 : ((σ'.set 3 (some (V.int q.1))).set 4 (some (V.int q.2)))[0]? = some (some v) := by simp [s0]
    have w1 : ((σ'.set 3 (some (V.int q.1))).set 4 (some (V.int q.2)))[1]? = some (some (.int k)) := by simp [s1]
    have w2 : ((σ'.set 3 (some (V.int q.1))).set 4 (some (V.int q.2)))[2]? = some (some (.ref D)) := by simp [s2]
    have w3 : ((σ'.set 3 (some (V.int q.1))).set 4 (some (V.int q.2)))[3]? = some (some (.int q.1)) := by rw [List.getElem?_set_ne (by decide), List.getElem?_set_self (by omega)]
    have w4 : ((σ'.set 3 (some (V.int q.1))).set 4 (some (V.int q.2)))[4]? = some (some (.int q.2)) := by rw [List.getElem?_set_self (by rw [List.length_set]; omega)]
    have hvr : RPc p v rs H' := (rpc_lst p).b hD3 eB hv2
    have st := stretches_st hv.1.ok hq'
    have hpr : ∀ H4, EvR (tTup (tCons (tVar 3) (tCons (tVar 4) tNil))) ((σ'.set 3 (some (V.int q.1))).set 4 (some (V.int q.2))) H4 (fun u => RPair u q) := fun H4 => evr_pair (ev_var w3) (ev_var w4)
    refine acc_app rquad_lst A w2 (evr_tupA (ea_cons (ev_var w3) (ea_cons (ev_var w4) (ea_cons (ev_need (ev_var w0) (hpr _) (ev_var w1) hvr st hk) (ea_cons (ev_room (hpr _) st) ea_nil)))) (by simp)) ?_ fun H6 e6 A6 => hN _ _ ⟨w0, w1, w2, by rw [List.length_set, List.length_set]; exact sl⟩ e6 A6
    have b1 := stretches_len rs
    have b2 : rs.length * rs.length ≤ 900 := Nat.le_trans (Nat.mul_le_mul hl hl) (by decide)
    rw [List.nil_append, flat_one, List.length_map] at hcl
    omega
  · obtain ⟨ys, h1, h2⟩ := A
    have eH : Ex H H' := ExB.back (e1.trans e2) eB hDn
    rw [List.nil_append, flat_one] at h2
    exact s_ret (ev_var s2) fun H4 e4 => hq _ H4 (eH.trans e4) ⟨D, ys, rfl, e4 _ _ h1, h2.mono rquad_lst.l e4⟩
theorem tooShort_tabl (rs : List Row) (k : Int) : (tabl rs k).find? (fun q => decide (q.2.2.2 < q.2.2.1)) = (Fm.tooShort rs k).map fun q => (q.1, q.2, Fm.need rs q.1 q.2 k, q.2 - q.1 + 1) := by
  unfold tabl Fm.tooShort
  rw [List.find?_map]
  rfl
theorem rd_too_short (p : Pm) : Keeps (t_too_short p) ["pieces", "failings", "start", "end", "wanted", "turns"] (sp_too_short p) := fun vs H Q E ⟨R, ⟨v, rs, k, ev, hv, hk, eR⟩, hq⟩ => by
  subst ev; subst eR
  refine for_find (D := { nx := tRet (tC .non) { nx := fun _ H' => Q .non H', rt := Q }, rt := Q }) (as := tabl rs k) (f := fun q => decide (q.2.2.2 < q.2.2.1)) (Sl := fun σ => σ.length = 6) rquad_lst.l
    (evr_call (R := NewL RQuad (tabl rs k)) (pre := fun vs H R => ∃ v rs k, vs = [v, .int k] ∧ RPc p v rs H ∧ K3 k ∧ R = NewL RQuad (tabl rs k)) (ea_cons (ev_var rfl) (ea_cons (ev_var rfl) ea_nil)) fun H1 e => ⟨v, rs, k, rfl, (rpc_lst p).l _ _ _ _ e hv, hk, rfl⟩) rfl
    (fun x q σ' H' hq' rx sl e1 hf N hN => ?_) fun hno σ' H' sl e1 => ?_
  · obtain ⟨a, rfl, ha⟩ := rx
    refine ⟨a, _, rfl, st_of ha, rfl, .int q.1, _, rfl, .int q.2.1, _, rfl, .int q.2.2.1, _, rfl, .int q.2.2.2, [], rfl, rfl, ?_⟩
    have w2 : ((((σ'.set 2 (some (V.int q.1))).set 3 (some (V.int q.2.1))).set 4 (some (V.int q.2.2.1))).set 5 (some (V.int q.2.2.2)))[2]? = some (some (.int q.1)) := by
      rw [List.getElem?_set_ne (by decide), List.getElem?_set_ne (by decide), List.getElem?_set_ne (by decide), List.getElem?_set_self (by omega)]
    have w3 : ((((σ'.set 2 (some (V.int q.1))).set 3 (some (V.int q.2.1))).set 4 (some (V.int q.2.2.1))).set 5 (some (V.int q.2.2.2)))[3]? = some (some (.int q.2.1)) := by
      rw [List.getElem?_set_ne (by decide), List.getElem?_set_ne (by decide), List.getElem?_set_self (by rw [List.length_set]; omega)]
    have w4 : ((((σ'.set 2 (some (V.int q.1))).set 3 (some (V.int q.2.1))).set 4 (some (V.int q.2.2.1))).set 5 (some (V.int q.2.2.2)))[4]? = some (some (.int q.2.2.1)) := by
      rw [List.getElem?_set_ne (by decide), List.getElem?_set_self (by rw [List.length_set, List.length_set]; omega)]
    have w5 : ((((σ'.set 2 (some (V.int q.1))).set 3 (some (V.int q.2.1))).set 4 (some (V.int q.2.2.1))).set 5 (some (V.int q.2.2.2)))[5]? = some (some (.int q.2.2.2)) := by
      rw [List.getElem?_set_self (by rw [List.length_set, List.length_set, List.length_set]; omega)]
    refine s_when (b := decide (q.2.2.2 < q.2.2.1)) (et_test (ev_op (ev_var w4) (ev_var w5) rv_I0)) (fun hb H3 e3 => ?_) fun hb H3 e3 => hN hb _ _ (by simp [sl]) e3
    refine s_retR (evr_pair (ev_var w2) (ev_var w3)) fun u H4 e4 r4 => hq u H4 ((e1.trans e3).trans e4) ?_
    have h1 := hf hb
    rw [tooShort_tabl] at h1
    cases h2 : Fm.tooShort rs k with
    | none => rw [h2] at h1; cases h1
    | some t =>
      rw [h2] at h1
      have h3 : (t.1, t.2, Fm.need rs t.1 t.2 k, t.2 - t.1 + 1) = q := Option.some.inj h1
      show RPair u t H4
      rw [← h3] at r4
      exact r4
  · rw [tooShort_tabl] at hno
    refine s_ret (σ := σ') (v := .non) (D := { nx := fun _ H' => Q .non H', rt := Q }) ev_c fun H4 e4 => hq .non H4 (e1.trans e4) ?_
    rw [Option.map_eq_none_iff.mp hno]
theorem evr_tooShort {p : Pm} {σ : L2.St} {H : Hp} {ta tb : TE} {v : V} {rs : List Row} {k : Int} (h1 : Ev ta σ H v) (h2 : Ev tb σ H (.int k)) (hv : RPc p v rs H) (hk : K3 k) :
    EvR (tCall (sp_too_short p) [] E0 (tCons ta (tCons tb tNil))) σ H (fun u H' => match Fm.tooShort rs k with | none => u = .non | some q => RPair u q H') :=
  evr_call (ea_cons h1 (ea_cons h2 ea_nil)) fun H1 e => ⟨v, rs, k, rfl, (rpc_lst p).l _ _ _ _ e hv, hk, rfl⟩
theorem rd_is_kept (p : Pm) : Keeps (t_is_kept p) ["pieces", "failings"] (sp_is_kept p) := fun vs H Q E ⟨R, ⟨v, rs, k, ev, hv, hk, eR⟩, hq⟩ => by
  subst ev; subst eR
  refine s_ret (v := .bl (Fm.kept rs k)) (fun H1 e1 Q' q' => (evr_tooShort (p := p) (ta := tVar 0) (tb := tVar 1) (ev_var rfl) (ev_var rfl) hv hk) H1 e1 _ fun u H2 e2 r => ⟨rfl, ?_⟩) fun H1 e1 => hq _ _ e1 rfl
  have : decide (u = .non) = Fm.kept rs k := by
    unfold Fm.kept
    cases h : Fm.tooShort rs k with
    | none => rw [h] at r; exact decide_eq_true r
    | some q =>
      rw [h] at r
      obtain ⟨a, rfl, _⟩ := r
      rfl
  rw [this]
  exact q' H2 e2
theorem ev_kept {p : Pm} {σ : L2.St} {H : Hp} {ta tb : TE} {v : V} {rs : List Row} {k : Int} (h1 : Ev ta σ H v) (h2 : Ev tb σ H (.int k)) (hv : RPc p v rs H) (hk : K3 k) : Ev (tCall (sp_is_kept p) [] E0 (tCons ta (tCons tb tNil))) σ H (.bl (Fm.kept rs k)) :=
  ev_pcall (ea_cons h1 (ea_cons h2 ea_nil)) fun H1 e => ⟨v, rs, k, rfl, (rpc_lst p).l _ _ _ _ e hv, hk, rfl⟩
/-! ### papers -/
theorem rd_Paper_init (p : Pm) (o : PmOk p) : Keeps (t_Paper_init p) ["self", "pieces", "failings"] (sp_Paper_init p) := fun vs H Q E ⟨C, x, dx, v, k, ev, hC, hx, hk, hq⟩ => by
  subst ev
  have cl : Cls p.K C ∧ NoAttr p.K C "held" ∧ NoAttr p.K C "most" := by
    rcases hC with rfl | rfl
    · exact ⟨o.cK, o.nKh, o.nKm⟩
    · exact ⟨o.cC, o.nCh, o.nCm⟩
  refine q_drop (ev_needF (ev_var rfl) hk) fun H1 e1 => ?_
  have hx1 := e1 _ _ hx
  refine ⟨v, rfl, .ref x, rfl, x, C, dx, [], rfl, hx1, cl.1, cl.2.1, by decide, ?_⟩
  refine ⟨.int k, rfl, .ref x, rfl, x, C, dx, _, rfl, upd_same, cl.1, cl.2.2, (by show (1 : Nat) < 1000; decide), ?_⟩
  refine hq _ (fun b u h n => (upd_ne n).trans ((upd_ne n).trans (e1 _ _ h))) ?_
  rw [upd_same]
  rfl
theorem rd_Kept_init (p : Pm) (o : PmOk p) : Keeps (t_Paper_init p) ["self", "pieces", "failings"] (sp_Kept_init p) := fun vs H Q E ⟨x, dx, as, R, ev, hx, ⟨u, rs, k, ea, hu, hk, eR⟩, hq⟩ => by
  subst ea; subst ev; subst eR
  refine rd_Paper_init p o _ H Q E ⟨p.CK, x, dx, u, k, rfl, .inl rfl, hx, hk, fun H' h1 h2 => hq H' h1 ⟨hk, x, dx, u, rfl, h2, ?_⟩⟩
  obtain ⟨hw, a, dy, d, xs, eu, g1, g2, g3⟩ := hu
  have na : a ≠ x := fun z => by rw [z, hx] at g1; have := (HO.ins.inj (Option.some.inj g1)).2.2; cases this
  have nd : d ≠ x := fun z => by rw [z, hx] at g2; cases g2
  exact ⟨hw, a, dy, d, xs, eu, h1 _ _ g1 na, h1 _ _ g2 nd, Paired.mapP g3 fun v r ⟨b, e, hb⟩ => ⟨b, e, h1 _ _ hb fun z => by rw [z, hx] at hb; cases hb⟩⟩
theorem rd_Crowd_init (p : Pm) (o : PmOk p) : Keeps (t_Crowd_init p) ["self", "pieces", "failings", "stretch"] (sp_Crowd_init p) := fun vs H Q E ⟨x, dx, as, R, ev, hx, ⟨u, k, s, q, ea, hk, hs, st, eR⟩, hq⟩ => by
  subst ea; subst ev; subst eR
  refine ⟨rfl, .ref x, rfl, u, rfl, .int k, rfl, p.CC, x, dx, u, k, rfl, .inr rfl, hx, hk, fun H1 h1 h2 => ?_⟩
  have hs1 : RPair s q H1 := by
    obtain ⟨a, es, ha⟩ := hs
    exact ⟨a, es, h1 _ _ ha fun z => by rw [z, hx] at ha; cases ha⟩
  refine q_must (et_B (ev_pcall (v := .bl true) (ea_cons (ev_var rfl) ea_nil) fun H2 e2 => ⟨s, q, rfl, rpair_lst.l _ _ _ _ e2 hs1, st, rfl⟩)) fun H2 e2 => ?_
  refine ⟨s, rfl, .ref x, rfl, x, p.CC, dx, _, rfl, e2 _ _ h2, o.cC, o.nCs, (by show (2 : Nat) < 1000; decide), ?_⟩
  exact hq _ (fun b w h n => (upd_ne n).trans (e2 _ _ (h1 _ _ h n))) trivial
theorem rd_Paper_failings (p : Pm) (o : PmOk p) : Keeps (t_Paper_failings p) ["self"] (sp_Paper_failings p) := fun vs H Q E ⟨R, ⟨v, q, ev, hv, eR⟩, hq⟩ => by
  subst ev; subst eR
  obtain ⟨hk, a, dx, u, rfl, h1, h2⟩ := hv
  exact s_ret (ev_fld (ev_var rfl) h1 o.cK o.nKm rfl) fun H1 e1 => hq _ _ e1 rfl
theorem rd_Kept_word (p : Pm) : Keeps (t_Kept_word p) ["self"] (sp_Kept_word p) := fun vs H Q E ⟨R, ⟨v, q, ev, hv, eR⟩, hq⟩ => by
  subst ev; subst eR
  exact s_ret ev_c fun H1 e1 => hq _ _ e1 rfl
theorem rd_Kept_holds (p : Pm) (o : PmOk p) : Keeps (t_Kept_holds p) ["self"] (sp_Kept_holds p) := fun vs H Q E ⟨R, ⟨v, q, ev, hv, eR⟩, hq⟩ => by
  subst ev; subst eR
  obtain ⟨hk, a, dx, u, rfl, h1, h2⟩ := hv
  exact s_ret (ev_kept (ev_fld (ev_var rfl) h1 o.cK o.nKh rfl) (ev_fld (ev_var rfl) h1 o.cK o.nKm rfl) h2 hk) fun H1 e1 => hq _ _ e1 rfl
theorem evr_mkKept {p : Pm} {σ : L2.St} {H : Hp} {ta tb : TE} {rs : List Row} {k : Int} (h1 : EvR ta σ H (fun u => RPc p u rs)) (h2 : Ev tb σ H (.int k)) (hk : K3 k) : EvR (tMake p.CK (sp_Kept_init p) [] E0 (tCons ta (tCons tb tNil))) σ H (fun u => RKept p u (rs, k)) :=
  evr_makeR (P := fun us H' => ∃ u, us = [u, .int k] ∧ RPc p u rs H') (fun H1 e1 Q' q' => h1 H1 e1 _ fun u H2 e2 r => h2 H2 (e1.trans e2) _ fun H3 e3 => q' _ H3 (e2.trans e3) ⟨u, rfl, (rpc_lst p).l _ _ _ _ e3 r⟩)
    fun us H1 e1 H2 e2 ⟨u, eu, r⟩ => ⟨u, rs, k, eu, (rpc_lst p).l _ _ _ _ e2 r, hk, rfl⟩
theorem rd_paper_of (p : Pm) : Keeps (t_paper_of p) ["pieces", "failings", "found"] (sp_paper_of p) := fun vs H Q E ⟨R, ⟨v, rs, k, ev, hv, hk, hn, eR⟩, hq⟩ => by
  subst ev; subst eR
  refine q_asgR (evr_tooShort (ev_var rfl) (ev_var rfl) hv hk) fun u H1 e1 r => ?_
  cases h : Fm.tooShort rs k with
  | none => unfold Fm.kept at hn; rw [h] at hn; cases hn
  | some q =>
    rw [h] at r
    have hm : q ∈ Fm.stretches rs := List.mem_of_find?_eq_some h
    have st := stretches_st hv.1.ok hm
    obtain ⟨b, rfl, hb⟩ := id r
    refine q_skip (et_is (et_test (ev_isN (ev_var (v := .ref b) rfl) rfl)) rfl) fun H2 e2 => ?_
    refine s_retR (R := fun _ _ => True) (evr_make (ea_cons (ev_var rfl) (ea_cons (ev_var rfl) (ea_cons (ev_var rfl) ea_nil))) fun H3 e3 => ⟨v, k, .ref b, q, rfl, hk, rpair_lst.l _ _ _ _ (e2.trans e3) r, st, rfl⟩) fun u H3 e3 _ => hq _ _ ((e1.trans e2).trans e3) trivial
/-! ### bearing -/
theorem rd_quotient (p : Pm) : Keeps (t_quotient p) ["pieces", "stretch", "length"] (sp_quotient p) := fun vs H Q E ⟨R, ⟨v, rs, s, q, ev, hv, hs, st, hne, eR⟩, hq⟩ => by
  subst ev; subst eR
  have g1 := Fm.gl_pos hv.1.ok hne
  have g2 := gl_le hv.1.ok q.1 q.2
  have hm := ev_max2 (ta := tUn rNegI (tC (.int 1))) (tb := tOp rDivW (tOp rSubI (tCall (sp_room p) [] E0 (tCons (tVar 1) tNil)) (tCall (sp_lefts p) [] E0 (tCons (tVar 0) (tCons (tVar 1) tNil)))) (tVar 2)) (σ := start ["pieces", "stretch", "length"] [v, s, .int (Fm.gl rs q.1 q.2)]) (H := H) (ev_un ev_c ru_neg)
    (ev_op (ev_op (ev_room (evr_var rfl (lasts_of rpair_lst.l) hs) st) (ev_lefts (ev_var rfl) (ev_var rfl) hv hs st) rv_I0) (ev_var rfl) (rv_I (wide_div (by omega) (small_of ⟨by omega, by omega⟩) (by decide) (by decide))))
  exact s_ret hm fun H1 e1 => hq _ _ e1 (by
    show V.int (if _ > _ then _ else _) = _
    unfold Fm.quo
    congr 1
    split <;> omega)
theorem rd_length_of (p : Pm) : Keeps (t_length_of p) ["pieces", "name"] (sp_length_of p) := fun vs H Q E ⟨R, ⟨v, rs, r, ev, hv, hr, eR⟩, hq⟩ => by
  subst ev; subst eR
  refine s_ret (v := .int r.c) (fun H1 e1 Q' q' => (ev_row (p := p) (te := tVar 0) (tz := tVar 1) (ev_var rfl) hv (ev_var rfl) hr) H1 e1 _ fun u H2 e2 ⟨a, eu, ha⟩ => ⟨a, rowV r, 3, .int r.c, eu, rfl, st_of ha, rfl, q' H2 e2⟩) fun H1 e1 => hq _ _ e1 rfl
theorem ev_minL {K : PySem.W.Frag} {σ : L2.St} {H : Hp} {te : TE} {ns : List Int} (h : EvR te σ H (NewL RInt ns)) (hn : ns ≠ []) : EvR (tCB (rMin K) (tCons te tNil)) σ H (fun u _ => ∃ m, u = .int m ∧ m ∈ ns ∧ ∀ y ∈ ns, m ≤ y) := fun H1 e Q q =>
  h H1 e _ fun u H2 e2 ⟨a, xs, eu, ha, hx⟩ => ⟨a, ns, by rw [eu], sq_of (by rw [ha, are_int hx]), List.length_pos_iff.mpr hn, fun m h1 h2 => q _ H2 e2 ⟨m, rfl, h1, h2⟩⟩
theorem rd_borne (p : Pm) : Keeps (t_borne p) ["pieces", "one"] (sp_borne p) := fun vs H Q E ⟨R, ⟨v, rs, ev, hv, hne, eR⟩, hq⟩ => by
  subst ev; subst eR
  have hl := hv.1.len
  have b1 := stretches_len rs
  have b2 : rs.length * rs.length ≤ 900 := Nat.le_trans (Nat.mul_le_mul hl hl) (by decide)
  have ht : EvT (tTest (tOp (rEqD p.K) (tMeth p.CP "names" (sp_Pieces_names p) [] E0 (tVar 0) tNil) (tLst tNil))) (start ["pieces", "one"] [v]) H false := et_test fun H1 e1 Q' q' =>
    (evn_names (p := p) (te := tVar 0) (ev_var rfl) hv).r H1 e1 _ fun u H2 e2 ⟨b, xs, eu, hb, ar⟩ => ⟨Nat.zero_le _, fun c hc => by
      have nb : b ≠ c := ne_of_none hb hc
      refine ⟨.list ((rs.map (·.n)).map PyData.str), .list (([] : List Str).map PyData.str), ?_, (dat_str p.K).dpL upd_same .nil, (dat_str p.K).shapeL _ (fun z hz => ?_), (dat_str p.K).shapeL _ (fun _ hr => by cases hr), ?_⟩
      · rw [eu]; exact (dat_str p.K).dpL ((upd_ne nb).trans hb) ar
      · obtain ⟨r, hr, rfl⟩ := List.mem_map.mp hz
        exact hv.1.nm r hr
      · rw [(dat_str p.K).eqL]
        have : decide (rs.map (·.n) = []) = false := decide_eq_false fun z => hne (List.map_eq_nil_iff.mp z)
        rw [this]
        exact q' _ (e2.trans (Ex.new hc))⟩
  refine q_skip ht fun H1 e1 => ?_
  have hv1 := (rpc_lst p).l _ _ _ _ e1 hv
  have hc : EvR (tLc (iList p.K (tCall (sp_stretches p) [] E0 (tCons (tVar 0) tNil))) (gName 1) tYes (tCall (sp_quotient p) [] E0 (tCons (tVar 0) (tCons (tVar 1) (tCons (tCall (sp_length_of p) [] E0 (tCons (tVar 0) (tCons (tCall (sp_longest p) [] E0 (tCons (tVar 0) (tCons (tVar 1) tNil))) tNil))) tNil)))) [1]) (start ["pieces", "one"] [v]) H1 (NewL RInt ((Fm.stretches rs).map (Fm.quo rs))) :=
    evr_cast (by rw [filter_true]) (evr_lcL (K := p.K) (f := fun _ => true) (h := Fm.quo rs) rpair_lst.l rint_lst (s2 := fun x => [some v, some x]) (newL_src (evn_stretches (ev_var rfl) hv1).r) (by omega) (fun x a H1 _ k hk => hk) (fun x => rfl) (fun _ _ _ _ _ _ => et_yes) fun x q H2 e2 hq' rx _ => ?_)
  · refine s_retR (ev_minL hc fun z => ?_) fun u H2 e2 r => hq _ _ (e1.trans e2) r
    exact Fm.stretches_ne hv.1.ok hne (List.map_eq_nil_iff.mp z)
  · have st := stretches_st hv.1.ok hq'
    have hne' := (Fm.mem_stretches.mp hq').2.2.2
    have hv2 := (rpc_lst p).l _ _ _ _ e2 hv1
    refine fun H3 e3 Q' q' => ⟨v, rfl, x, rfl, v, rfl, v, rfl, x, rfl, _, ⟨v, rs, x, q, rfl, (rpc_lst p).l _ _ _ _ e3 hv2, rpair_lst.l _ _ _ _ e3 rx, st, hne', rfl⟩, fun u H4 e4 ⟨r, hr, hc', eu⟩ => ?_⟩
    have e34 := e3.trans e4
    refine ⟨_, ⟨v, rs, r, by rw [eu]; rfl, (rpc_lst p).l _ _ _ _ e34 hv2, hr, rfl⟩, fun u2 H5 e5 eu2 => ?_⟩
    refine ⟨_, ⟨v, rs, x, q, by rw [eu2, hc']; rfl, (rpc_lst p).l _ _ _ _ (e34.trans e5) hv2, rpair_lst.l _ _ _ _ (e34.trans e5) rx, st, hne', rfl⟩, fun u3 H6 e6 eu3 => q' u3 H6 ((e4.trans e5).trans e6) eu3⟩
end Fs

set_option Elab.async false
set_option linter.all false
set_option maxRecDepth 100000
set_option maxHeartbeats 4000000
/-! READINGS -/
namespace Fs
open PySem PySem.Spec PyProof.Rows L2 Evl
theorem ev_keptR {p : Pm} {σ : L2.St} {H : Hp} {ta tb : TE} {rs : List Row} {k : Int} (h1 : EvR ta σ H (fun u => RPc p u rs)) (h2 : Ev tb σ H (.int k)) (hk : K3 k) : Ev (tCall (sp_is_kept p) [] E0 (tCons ta (tCons tb tNil))) σ H (.bl (Fm.kept rs k)) := fun H1 e Q q =>
  h1 H1 e _ fun v H2 e2 r => h2 H2 (e.trans e2) _ fun H3 e3 => ⟨_, ⟨v, rs, k, rfl, (rpc_lst p).l _ _ _ _ e3 r, hk, rfl⟩, fun u H4 e4 r4 => by rw [r4]; exact q H4 ((e2.trans e3).trans e4)⟩
theorem rd_refused_with (p : Pm) : Keeps (t_refused_with p) ["pieces", "failings", "row", "found"] (sp_refused_with p) := fun vs H Q E ⟨R, ⟨rs, k, r, ⟨v, y, ev, hv, hy, hw, hk, h1, h2⟩, eR⟩, hq⟩ => by
  subst ev; subst eR
  obtain ⟨_, a, dx, d, xs, rfl, g1, _, _⟩ := id hv
  refine q_asgR (evr_meth (R := fun u => RPc p u (rs ++ [r])) (ev_var rfl) g1 rfl (ea_cons (ev_var rfl) ea_nil) fun H1 e => ⟨.ref a, rs, y, r, rfl, (rpc_lst p).l _ _ _ _ e hv, rrow_lst.l _ _ _ _ e hy, hw, rfl⟩) fun u H1 e1 hu => ?_
  refine q_skip (et_is (et_or (et_B (ev_kept (ev_var rfl) (ev_var rfl) hu hk)) fun _ => et_not (et_B (ev_kept (ev_var rfl) (ev_var rfl) ((rpc_lst p).l _ _ _ _ e1 hv) hk))) (by rw [h1, h2]; rfl)) fun H2 e2 => ?_
  exact s_retR (evr_var rfl (lasts_of (rpc_lst p).l) ((rpc_lst p).l _ _ _ _ e2 hu)) fun w H3 e3 r3 => hq _ _ ((e1.trans e2).trans e3) r3
theorem evr_refused {p : Pm} {σ : L2.St} {H : Hp} {vs : List V} {rs : List Row} {k : Int} {r : Row} {tl : TA} (h : EvA tl σ H vs) (hr : Ref p vs H rs k r) : EvR (tCall (sp_refused_with p) [] E0 tl) σ H (fun u => RPc p u (rs ++ [r])) :=
  evr_call h fun H1 e => ⟨rs, k, r, by
    obtain ⟨v, y, ev, hv, hy, hw⟩ := hr
    exact ⟨v, y, ev, (rpc_lst p).l _ _ _ _ e hv, rrow_lst.l _ _ _ _ e hy, hw⟩, rfl⟩
theorem Ref.mono {p : Pm} {vs : List V} {H H' : Hp} {rs : List Row} {k : Int} {r : Row} (h : Ref p vs H rs k r) (e : Ex H H') : Ref p vs H' rs k r := by
  obtain ⟨v, y, ev, hv, hy, hw⟩ := h
  exact ⟨v, y, ev, (rpc_lst p).l _ _ _ _ e hv, rrow_lst.l _ _ _ _ e hy, hw⟩
theorem rd_fewer (p : Pm) : Keeps (t_fewer p) ["pieces", "failings", "row"] (sp_fewer p) := fun vs H Q E ⟨R, ⟨rs, k, r, hr, eR⟩, hq⟩ => by
  subst eR
  obtain ⟨v, y, ev, hv, hy, hw, hk, h1, h2⟩ := id hr
  subst ev
  refine q_drop (ev_needF (ev_var rfl) hk) fun H1 e1 => ?_
  refine s_retR (evr_callR (R := Borne (rs ++ [r])) (P := fun us H' => ∃ u, us = [u] ∧ RPc p u (rs ++ [r]) H') (ear_1 (evr_refused (ea_cons (ev_var rfl) (ea_cons (ev_var rfl) (ea_cons (ev_var rfl) ea_nil))) (hr.mono e1)) (lasts_of (rpc_lst p).l)) fun us H2 e2 ⟨u, eu, hu⟩ => ⟨u, rs ++ [r], eu, hu, by simp, rfl⟩) fun u H2 e2 r2 => hq _ _ (e1.trans e2) r2
theorem rd_instead_of (p : Pm) : Keeps (t_instead_of p) ["pieces", "failings", "row", "found", "told", "name", "others"] (sp_instead_of p) := fun vs H Q E ⟨R, ⟨rs, k, r, hr, eR⟩, hq⟩ => by
  subst eR
  obtain ⟨v, y, ev, hv, hy, hw, hk, h1, h2⟩ := id hr
  subst ev
  refine q_drop (ev_needF (ev_var rfl) hk) fun H1 e1 => ?_
  refine q_asgR (evr_refused (ea_cons (ev_var rfl) (ea_cons (ev_var rfl) (ea_cons (ev_var rfl) ea_nil))) (hr.mono e1)) fun fo H2 e2 hfo => ?_
  refine q_new fun D hD => ?_
  have e3 : Ex H2 (upd H2 D (.lst [])) := Ex.new hD
  have hD3 : (upd H2 D (.lst []) : Hp) D = some (.lst []) := upd_same
  have hv3 := (rpc_lst p).l _ _ _ _ ((e1.trans e2).trans e3) hv
  have hf3 := (rpc_lst p).l _ _ _ _ e3 hfo
  have hDn : H D = none := fresh_back (e1.trans e2) hD
  have hlen := hv.1.len
  refine acc_forN (D := { nx := tRet (tVar 4) { nx := fun _ H' => Q .non H', rt := Q }, rt := Q }) (as := rs.map (·.n)) (Dl := D) (bs := []) (RB := RTold p rs r k) (f := fun z => if Fm.kept (oth rs r z) k = true then [z] else [])
    (Sl := fun σ => σ[1]? = some (some (.int k)) ∧ σ[3]? = some (some fo) ∧ σ[4]? = some (some (.ref D)) ∧ σ.length = 7) rstr_lst (rtold_lst p rs r k) (evn_names (ev_var rfl) hv3) (acc_nil hD3) ⟨rfl, rfl, rfl, rfl⟩
    (fun x z σ' H' cs hz rx ⟨s1, s3, s4, sl⟩ eB A hcl N hN => ?_) fun σ' H' ⟨s1, s3, s4, sl⟩ eB A => ?_
  · have ex : x = .str z := rx
    subst ex
    have hfr : RPc p fo (rs ++ [r]) H' := (rpc_lst p).b hD3 eB hf3
    obtain ⟨q, hq', eq⟩ := List.mem_map.mp hz
    obtain ⟨_, a, dx, d, xs, efo, g1, _, _⟩ := id hfr
    have w3 : (σ'.set 5 (some (V.str z)))[3]? = some (some fo) := by simp [s3]
    have w5 : (σ'.set 5 (some (V.str z)))[5]? = some (some (.str z)) := by rw [List.getElem?_set_self (by omega)]
    have hwo : EvR (tMeth p.CP "without" (sp_Pieces_without p) [] E0 (tVar 3) (tCons (tVar 5) tNil)) (σ'.set 5 (some (V.str z))) H' (fun u => RPc p u (oth rs r z)) :=
      evr_meth (vs := [.str z]) (ev_var (by rw [w3, efo])) g1 rfl (ea_cons (ev_var w5) ea_nil) fun H4 e4 => ⟨fo, rs ++ [r], q, by rw [efo, eq], (rpc_lst p).l _ _ _ _ e4 hfr, List.mem_append_left _ hq', by rw [eq]; rfl⟩
    refine q_asgR hwo fun u H4 e4 hu => ?_
    have u1 : ((σ'.set 5 (some (V.str z))).set 6 (some u))[1]? = some (some (.int k)) := by simp [s1]
    have u3 : ((σ'.set 5 (some (V.str z))).set 6 (some u))[3]? = some (some fo) := by simp [s3]
    have u4 : ((σ'.set 5 (some (V.str z))).set 6 (some u))[4]? = some (some (.ref D)) := by simp [s4]
    have u5 : ((σ'.set 5 (some (V.str z))).set 6 (some u))[5]? = some (some (.str z)) := by rw [List.getElem?_set_ne (by decide)]; exact w5
    have u6 : ((σ'.set 5 (some (V.str z))).set 6 (some u))[6]? = some (some u) := by rw [List.getElem?_set_self (by rw [List.length_set]; omega)]
    have ul : ((σ'.set 5 (some (V.str z))).set 6 (some u)).length = 7 := by simp [sl]
    have A4 := A.ex (rtold_lst p rs r k) e4
    refine s_when (et_B (ev_kept (ev_var u6) (ev_var u1) hu hk)) (fun hb H5 e5 => ?_) fun hb H5 e5 => hN _ _ ⟨u1, u3, u4, ul⟩ (ExB.of (e4.trans e5)) (by rw [if_neg (by rw [hb]; decide), List.append_nil]; exact A4.ex (rtold_lst p rs r k) e5)
    have hu5 := (rpc_lst p).l _ _ _ _ e5 hu
    refine acc_app (rtold_lst p rs r k) (A4.ex (rtold_lst p rs r k) e5) u4 (b := z) (fun H6 e6 Q' q' => ?_) ?_ fun H6 e6 A6 => hN _ _ ⟨u1, u3, u4, ul⟩ ((ExB.of (e4.trans e5)).trans e6) (by rw [if_pos hb]; exact A6)
    · refine ⟨.str z, u5, ?_⟩
      refine (evr_mkKept (p := p) (ta := tVar 6) (tb := tVar 1) (evr_var u6 (lasts_of (rpc_lst p).l) hu5) (ev_var u1) hk) H6 e6 _ fun w H8 e8 hw8 => ⟨sz_of (show 2 ≤ 100000 by decide), fun t ht => ?_⟩
      exact q' _ _ (e8.trans (Ex.new ht)) ⟨t, w, rfl, upd_same, (rkept_lst p).l _ _ _ _ (Ex.new ht) hw8⟩
    · have b1 : ((rs.map (·.n)).flatMap fun z => if Fm.kept (oth rs r z) k = true then [z] else []).length ≤ (rs.map (·.n)).length * 1 := flat_len _ fun a => by split <;> simp
      rw [List.length_map] at b1
      rw [List.nil_append] at hcl
      omega
  · obtain ⟨ys, g1, g2⟩ := A
    have eH : Ex H H' := ExB.back ((e1.trans e2).trans e3) eB hDn
    rw [List.nil_append, flat_if, List.map_id'] at g2
    exact s_ret (ev_var s4) fun H4 e4 => hq D H4 hDn (eH.trans e4) ⟨D, ys, rfl, e4 _ _ g1, g2.mono (rtold_lst p rs r k).l e4⟩
/-! ### least_turns -/
open LamX NdefX
theorem evr_moved {p : Pm} {m : Lm} {σ : L2.St} {H : Hp} {te : TE} {f : Addr} {F : NF} {ws : List V} {most t : Int} {g : Int → List Row} {i : Nat} (hi : σ[i]? = some (some (.ref f))) (hF : ∃ cl c, F = m.L.F cl c) (C : Clo H f F m.b m.fr ws) (M : MovedOk p m ws most g (dropC H (cellsOf F)))
    (h : Ev te σ H (.int t)) (h0 : 0 ≤ t) (h1 : t ≤ most) : EvR (tLamv m.L m.b m.fr m.sp i (tCons te tNil)) σ H (fun u => RPc p u (g t)) := fun H1 e Q q => by
  obtain ⟨cl, c, rfl⟩ := hF
  refine ⟨f, hi, ⟨_, e _ _ C.fn⟩, h H1 e _ fun H2 e2 => ⟨cl, c, ws, C.ext (ExtN.of (e.trans e2)), ?_⟩⟩
  have hc := (C.ext (ExtN.of (e.trans e2))).isC
  refine M _ (fun b o hb => ?_) t h0 h1 _ fun v H3 e3 r hno => ?_
  · by_cases hm : b ∈ cellsOf (m.L.F cl c)
    · rw [dropC_in hm] at hb; cases hb
    · rw [dropC_out hm] at hb
      rw [dropC_out hm]; exact (e.trans e2) b o hb
  · refine q v _ (e2.trans fun b o hb => ?_) ((rpc_lst p).l _ _ _ _ (fun b o hb => ?_) r)
    · by_cases hm : b ∈ cellsOf (m.L.F cl c)
      · rw [putC_in hm]; exact hb
      · rw [putC_out hm]; exact e3 b o (by rw [dropC_out hm]; exact hb)
    · by_cases hm : b ∈ cellsOf (m.L.F cl c)
      · rw [hno b hm] at hb; cases hb
      · rw [putC_out hm]; exact hb
theorem MovedOk.mono {p : Pm} {m : Lm} {ws : List V} {most : Int} {g : Int → List Row} {H H' : Hp} {cs : List Addr} (M : MovedOk p m ws most g (dropC H cs)) (e : Ex H H') : MovedOk p m ws most g (dropC H' cs) := fun H1 e1 =>
  M H1 fun b o hb => e1 b o (by
    by_cases hm : b ∈ cs
    · rw [dropC_in hm] at hb; cases hb
    · rw [dropC_out hm] at hb ⊢; exact e b o hb)
theorem rd_least_turns (p : Pm) (m : Lm) : Keeps (t_least_turns p m) ["failings", "moved", "most", "low", "high", "middle"] (sp_least_turns p m) := fun vs H Q E ⟨k, f, most, F, ws, g, ev, hk, hmost, h0, hF, C, M, hq⟩ => by
  subst ev
  have mv : ∀ {σ : L2.St} {H' : Hp} {te : TE} {t : Int}, σ[1]? = some (some (.ref f)) → Ex H H' → Ev te σ H' (.int t) → 0 ≤ t → t ≤ most → EvR (tLamv m.L m.b m.fr m.sp 1 (tCons te tNil)) σ H' (fun u => RPc p u (g t)) := fun s e h a b => evr_moved s hF (C.ext (ExtN.of e)) (M.mono e) h a b
  have t1 : EvT (tOr (tTest (tOp rLtI (tVar 2) (tC (.int 1)))) (tNot (tB (tCall (sp_is_kept p) [] E0 (tCons (tLamv m.L m.b m.fr m.sp 1 (tCons (tVar 2) tNil)) (tCons (tVar 0) tNil)))))) (start ["failings", "moved", "most", "low", "high", "middle"] [.int k, .ref f, .int most]) H (decide (most < 1) || !Fm.kept (g most) k) :=
    et_or (et_test (ev_op (ev_var rfl) ev_c rv_I0)) fun hb => et_not (et_B (ev_keptR (mv rfl (Ex.refl H) (ev_var rfl) (by have := of_decide_eq_false hb; omega) (Int.le_refl _)) (ev_var rfl) hk))
  refine q_when t1 (fun hb H1 e1 => s_ret ev_c fun H2 e2 => hq _ _ (e1.trans e2) (.inl ⟨?_, rfl⟩)) fun hb H1 e1 => ?_
  · rw [Bool.or_eq_true, decide_eq_true_eq, Bool.not_eq_true'] at hb
    exact hb
  rw [Bool.or_eq_false_iff, decide_eq_false_iff_not, Bool.not_eq_false'] at hb
  refine q_asg (v := .int 0) ev_c fun H2 e2 => q_asg (v := .int most) (ev_var rfl) fun H3 e3 => ?_
  have e3' := (e1.trans e2).trans e3
  refine q_while (fun n σ H' => ∃ lo hi : Int, σ[0]? = some (some (.int k)) ∧ σ[1]? = some (some (.ref f)) ∧ σ[2]? = some (some (.int most)) ∧ σ[3]? = some (some (.int lo)) ∧ σ[4]? = some (some (.int hi)) ∧ σ.length = 6 ∧ Ex H H' ∧ 0 ≤ lo ∧ lo < hi ∧ hi ≤ most ∧ Fm.kept (g lo) k = false ∧ Fm.kept (g hi) k = true ∧ n = (hi - lo).toNat) most.toNat
    ⟨0, most, rfl, rfl, rfl, rfl, rfl, rfl, e3', by omega, by omega, by omega, h0, hb.2, by omega⟩ fun n σ' H' ⟨lo, hi, s0, s1, s2, s3, s4, sl, eH, l1, l2, l3, k1, k2, en⟩ => ⟨decide (1 < hi - lo), et_test (ev_op (ev_op (ev_var s4) (ev_var s3) rv_I0) ev_c rv_I0), fun hw H4 e4 => ?_, fun hw H4 e4 => ?_⟩
  · have hgt : 1 < hi - lo := of_decide_eq_true hw
    refine ⟨_, fun σ2 H2 h => h, ?_⟩
    refine q_asg (v := .int ((lo + hi) / 2)) (ev_op (ev_op (ev_var s3) (ev_var s4) rv_I0) ev_c (rv_I (wide_div (b := 3) (by decide) (by decide) (by decide) (by decide)))) fun H5 e5 => ?_
    have w0 : (σ'.set 5 (some (V.int ((lo + hi) / 2))))[0]? = some (some (.int k)) := by simp [s0]
    have w1 : (σ'.set 5 (some (V.int ((lo + hi) / 2))))[1]? = some (some (.ref f)) := by simp [s1]
    have w2 : (σ'.set 5 (some (V.int ((lo + hi) / 2))))[2]? = some (some (.int most)) := by simp [s2]
    have w3 : (σ'.set 5 (some (V.int ((lo + hi) / 2))))[3]? = some (some (.int lo)) := by simp [s3]
    have w4 : (σ'.set 5 (some (V.int ((lo + hi) / 2))))[4]? = some (some (.int hi)) := by simp [s4]
    have w5 : (σ'.set 5 (some (V.int ((lo + hi) / 2))))[5]? = some (some (.int ((lo + hi) / 2))) := by rw [List.getElem?_set_self (by omega)]
    have wl : (σ'.set 5 (some (V.int ((lo + hi) / 2)))).length = 6 := by rw [List.length_set]; exact sl
    have e5' := (eH.trans e4).trans e5
    refine s_if (et_B (ev_keptR (mv w1 e5' (ev_var w5) (by omega) (by omega)) (ev_var w0) hk)) (fun hb2 H6 e6 => ?_) fun hb2 H6 e6 => ?_
    · refine s_asg (ev_var w5) fun H7 e7 => ⟨(((lo + hi) / 2) - lo).toNat, by omega, lo, (lo + hi) / 2, by simp [w0], by simp [w1], by simp [w2], by simp [w3], by rw [List.getElem?_set_self (by omega)], by simp [wl], (e5'.trans e6).trans e7, l1, by omega, by omega, k1, hb2, rfl⟩
    · refine s_asg (ev_var w5) fun H7 e7 => ⟨(hi - ((lo + hi) / 2)).toNat, by omega, (lo + hi) / 2, hi, by simp [w0], by simp [w1], by simp [w2], by rw [List.getElem?_set_self (by omega)], by simp [w4], by simp [wl], (e5'.trans e6).trans e7, by omega, by omega, l3, hb2, k2, rfl⟩
  · have hle : ¬ 1 < hi - lo := of_decide_eq_false hw
    have elo : lo = hi - 1 := by omega
    have e4' := eH.trans e4
    have fin : EvR (tTup (tCons (tVar 4) (tCons (tMake p.CK (sp_Kept_init p) [] E0 (tCons (tLamv m.L m.b m.fr m.sp 1 (tCons (tVar 4) tNil)) (tCons (tVar 0) tNil))) (tCons (tCall (sp_paper_of p) [] E0 (tCons (tLamv m.L m.b m.fr m.sp 1 (tCons (tVar 3) tNil)) (tCons (tVar 0) tNil))) tNil)))) σ' H4 (fun u H' => ∃ a x y, u = .ref a ∧ H' a = some (.tup [.int hi, x, y])) := fun H5 e5 Q' q' => by
      refine ⟨.int hi, s4, ?_⟩
      refine (evr_mkKept (p := p) (tb := tVar 0) (mv s1 (e4'.trans e5) (ev_var s4) (by omega) l3) (ev_var s0) hk) H5 (Ex.refl H5) _ fun x H7 e7 _ => ?_
      have e7' := (e4'.trans e5).trans e7
      have hp : EvR (tCall (sp_paper_of p) [] E0 (tCons (tLamv m.L m.b m.fr m.sp 1 (tCons (tVar 3) tNil)) (tCons (tVar 0) tNil))) σ' H7 (fun _ _ => True) :=
        evr_callR (P := fun us H' => ∃ u, us = [u, .int k] ∧ RPc p u (g lo) H') (fun H8 e8 Q2 q2 => mv s1 (e7'.trans e8) (te := tVar 3) (t := lo) (ev_var s3) l1 (by omega) H8 (Ex.refl H8) _ fun u H9 e9 hu => ⟨.int k, s0, q2 _ H9 e9 ⟨u, rfl, hu⟩⟩)
          fun us H8 e8 ⟨u, eu, hu⟩ => ⟨u, g lo, k, eu, hu, hk, k1, rfl⟩
      refine hp H7 (Ex.refl H7) _ fun y H8 e8 _ => ⟨sz_of (show 3 ≤ 100000 by decide), fun t ht => ?_⟩
      exact q' _ _ ((e7.trans e8).trans (Ex.new ht)) ⟨t, x, y, rfl, upd_same⟩
    exact s_retR fin fun u H5 e5 ⟨a, x, y, eu, ha⟩ => hq u H5 (e4'.trans e5) (.inr ⟨by omega, hb.2, hi, a, x, y, eu, ha, by omega, l3, k2, by rw [← elo]; exact k1⟩)
end Fs

set_option Elab.async false
set_option linter.all false
set_option maxRecDepth 100000
set_option maxHeartbeats 4000000
/-! the order of work: least last turn first; plain -/
namespace Fm
section
variable {N : Type} [DecidableEq N]
def cap (rs : List (Rw N)) (w : N → Int) (e : Int) : Int := ((rs.filter fun r => decide (r.l ≤ e)).map fun r => w r.n).sum
theorem sum_le {α : Type} {f g : α → Int} : ∀ {l : List α}, (∀ a ∈ l, f a ≤ g a) → (l.map f).sum ≤ (l.map g).sum
  | [], _ => by simp
  | a :: l, h => by
    have h1 := h a List.mem_cons_self
    have h2 := sum_le (l := l) fun b hb => h b (List.mem_cons_of_mem _ hb)
    simp only [List.map_cons, List.sum_cons]; omega
theorem sum_zero {α : Type} {f : α → Int} : ∀ {l : List α}, (∀ a ∈ l, 0 ≤ f a) → (l.map f).sum ≤ 0 → ∀ a ∈ l, f a = 0
  | [], _, _, a, ha => by cases ha
  | b :: l, h, s, a, ha => by
    have h1 := h b List.mem_cons_self
    have h2 : 0 ≤ (l.map f).sum := sum_nonneg fun x hx => by
      obtain ⟨c, hc, rfl⟩ := List.mem_map.mp hx
      exact h c (List.mem_cons_of_mem _ hc)
    simp only [List.map_cons, List.sum_cons] at s
    rcases List.mem_cons.mp ha with rfl | ha
    · omega
    · exact sum_zero (fun c hc => h c (List.mem_cons_of_mem _ hc)) (by omega) a ha
theorem sum_congr {α : Type} {f g : α → Int} {l : List α} (h : ∀ a ∈ l, f a = g a) : (l.map f).sum = (l.map g).sum := by
  rw [List.map_congr_left h]
/-- a sum where one thing is changed -/
theorem sum_upd {f g : Rw N → Int} {b : Rw N} {d : Int} : ∀ {l : List (Rw N)}, (l.map (·.n)).Nodup → b ∈ l → (∀ r ∈ l, r.n ≠ b.n → f r = g r) → f b = g b + d → (l.map f).sum = (l.map g).sum + d
  | a :: l, nd, hb, h, e => by
    have nd' : a.n ∉ l.map (·.n) ∧ (l.map (·.n)).Nodup := List.nodup_cons.mp nd
    simp only [List.map_cons, List.sum_cons]
    rcases List.mem_cons.mp hb with eb | hb
    · subst eb
      have : (l.map f).sum = (l.map g).sum := sum_congr fun r hr => h r (List.mem_cons_of_mem _ hr) fun z => nd'.1 (List.mem_map.mpr ⟨r, hr, z⟩)
      omega
    · have h1 := sum_upd nd'.2 hb (fun r hr => h r (List.mem_cons_of_mem _ hr)) e
      have h2 := h a List.mem_cons_self fun z => nd'.1 (List.mem_map.mpr ⟨b, hb, z.symm⟩)
      omega
theorem nodup_le : ∀ {l m : List N}, l.Nodup → (∀ x ∈ l, x ∈ m) → l.length ≤ m.length
  | [], m, _, _ => Nat.zero_le _
  | a :: l, m, nd, h => by
    have nd' : a ∉ l ∧ l.Nodup := List.nodup_cons.mp nd
    have ha := h a List.mem_cons_self
    have := nodup_le (l := l) (m := m.erase a) nd'.2 fun x hx => (List.mem_erase_of_ne fun z => nd'.1 (by rw [← z]; exact hx)).mpr (h x (List.mem_cons_of_mem _ hx))
    rw [List.length_erase_of_mem ha] at this
    have hp : 0 < m.length := List.length_pos_of_mem ha
    rw [List.length_cons]; omega
theorem nodup_full {l m : List N} (nd : l.Nodup) (h : ∀ x ∈ l, x ∈ m) (hl : m.length ≤ l.length) : ∀ x ∈ m, x ∈ l := fun x hx => by
  by_cases hm : x ∈ l
  · exact hm
  · have := nodup_le (l := x :: l) (m := m) (List.nodup_cons.mpr ⟨hm, nd⟩) fun y hy => by
      rcases List.mem_cons.mp hy with rfl | hy
      · exact hx
      · exact h y hy
    rw [List.length_cons] at this; omega
theorem rows_inj : ∀ {rs : List (Rw N)}, (rs.map (·.n)).Nodup → ∀ {a b : Rw N}, a ∈ rs → b ∈ rs → a.n = b.n → a = b
  | x :: l, h, a, b, ha, hb, e => by
    have h1 : x.n ∉ l.map (·.n) ∧ (l.map (·.n)).Nodup := List.nodup_cons.mp h
    rcases List.mem_cons.mp ha with ea | ha
    · rcases List.mem_cons.mp hb with eb | hb
      · rw [ea, eb]
      · exact absurd (List.mem_map.mpr ⟨b, hb, by rw [← e, ea]⟩) h1.1
    · rcases List.mem_cons.mp hb with eb | hb
      · exact absurd (List.mem_map.mpr ⟨a, ha, by rw [e, eb]⟩) h1.1
      · exact rows_inj h1.2 ha hb e

/-- the state at turn t: w what is wanting, fin the names done, tr the turns trodden -/
structure J (rs : List (Rw N)) (t : Int) (w : N → Int) (fin : List N) (tr : List (Int × N)) : Prop where
  t0 : 0 ≤ t
  w0 : ∀ r ∈ rs, 0 ≤ w r.n ∧ w r.n ≤ r.r
  wf : ∀ r ∈ rs, t ≤ r.f → w r.n = r.r
  nd : fin.Nodup
  sub : ∀ z ∈ fin, z ∈ rs.map (·.n)
  iff : ∀ r ∈ rs, r.n ∈ fin ↔ w r.n = 0 ∧ r.f < t
  cp : ∀ e, t - 1 ≤ e → cap rs w e ≤ e - t + 1
  up : (tr.map (·.1)).Pairwise (· < ·)
  lt : ∀ x ∈ tr, x.1 < t
  win : ∀ r ∈ rs, ∀ x ∈ tr, x.2 = r.n → r.f ≤ x.1 ∧ x.1 ≤ r.l
  cnt : ∀ r ∈ rs, ((tr.filter fun x => decide (x.2 = r.n)).length : Int) = r.r - w r.n
  tot : (tr.length : Int) = (rs.map fun r => r.r - w r.n).sum
def empt (rs : List (Rw N)) (t : Int) : List N := (rs.filter fun r => decide (r.f = t) && decide (r.r = 0)).map (·.n)
def Best (rs : List (Rw N)) (t : Int) (fin : List N) : Option (Rw N) → Prop
  | none => ∀ r ∈ rs, ¬ (r.f ≤ t ∧ r.n ∉ fin)
  | some b => b ∈ rs ∧ b.f ≤ t ∧ b.n ∉ fin ∧ ∀ r ∈ rs, r.f ≤ t → r.n ∉ fin → b.l ≤ r.l
theorem best_nil (t : Int) (fin : List N) : Best ([] : List (Rw N)) t fin none := fun r hr => by cases hr
theorem best_yes {rs : List (Rw N)} {t : Int} {fin : List N} {o : Option (Rw N)} {r : Rw N} (h : Best rs t fin o) (h1 : r.f ≤ t) (h2 : r.n ∉ fin) (h3 : ∀ b, o = some b → r.l < b.l) : Best (rs ++ [r]) t fin (some r) := by
  refine ⟨by simp, h1, h2, fun q hq a b => ?_⟩
  rcases List.mem_append.mp hq with hq | hq
  · cases o with
    | none => exact absurd ⟨a, b⟩ (h q hq)
    | some c => have := h.2.2.2 q hq a b; have := h3 c rfl; omega
  · rw [List.mem_singleton.mp hq]; exact Int.le_refl _
theorem best_no {rs : List (Rw N)} {t : Int} {fin : List N} {o : Option (Rw N)} {r : Rw N} (h : Best rs t fin o) (h1 : r.f ≤ t → r.n ∉ fin → ∃ b, o = some b ∧ b.l ≤ r.l) : Best (rs ++ [r]) t fin o := by
  cases o with
  | none =>
    intro q hq
    rcases List.mem_append.mp hq with hq | hq
    · exact h q hq
    · rw [List.mem_singleton.mp hq]
      rintro ⟨a, b⟩
      obtain ⟨c, e, _⟩ := h1 a b
      cases e
  | some c =>
    refine ⟨List.mem_append_left _ h.1, h.2.1, h.2.2.1, fun q hq a b => ?_⟩
    rcases List.mem_append.mp hq with hq | hq
    · exact h.2.2.2 q hq a b
    · rw [List.mem_singleton.mp hq] at a b ⊢
      obtain ⟨d, e, z⟩ := h1 a b
      cases e; exact z
variable {rs : List (Rw N)} {t : Int} {w : N → Int} {fin : List N} {tr : List (Int × N)}
theorem lefts_as_cap {s e : Int} : lefts rs s e = ((rs.filter fun r => decide (r.l ≤ e)).map fun r => if s ≤ r.f then r.r else 0).sum := by
  unfold lefts within
  induction rs with
  | nil => rfl
  | cons a l ih =>
    rw [List.filter_cons, List.filter_cons]
    by_cases h1 : a.l ≤ e
    · by_cases h2 : s ≤ a.f
      · rw [if_pos (inb_iff.mpr ⟨h2, h1⟩), if_pos (decide_eq_true h1)]
        simp only [List.map_cons, List.sum_cons, if_pos h2, ih]
      · rw [if_neg (fun z => h2 (inb_iff.mp z).1), if_pos (decide_eq_true h1)]
        simp only [List.map_cons, List.sum_cons, if_neg h2, ih]; omega
    · rw [if_neg (fun z => h1 (inb_iff.mp z).2), if_neg (by simpa using h1)]
      exact ih
/-- only what is to come counts -/
theorem cap_le (hk : Kept rs 0) {e : Int} (he : t ≤ e) (h : ∀ r ∈ rs, r.l ≤ e → w r.n ≤ if t + 1 ≤ r.f then r.r else 0) : cap rs w e ≤ e - (t + 1) + 1 := by
  have h1 := hk (t + 1) e (by omega)
  have h2 : need rs (t + 1) e 0 = lefts rs (t + 1) e := by unfold need; simp
  rw [h2, lefts_as_cap] at h1
  refine Int.le_trans (sum_le fun r hr => ?_) h1
  have hm := List.mem_filter.mp hr
  exact h r hm.1 (of_decide_eq_true hm.2)
theorem J.start (hk : Kept rs 0) (ok : Oks rs) (hw : ∀ r ∈ rs, w r.n = r.r) : J rs 0 w [] [] := by
  refine ⟨Int.le_refl _, fun r hr => ⟨by rw [hw r hr]; exact (ok r hr).r0, by rw [hw r hr]; exact Int.le_refl _⟩, fun r hr _ => hw r hr, List.nodup_nil, fun z hz => (by cases hz), fun r hr => ⟨fun z => (by cases z), fun z => ?_⟩, fun e he => ?_, List.Pairwise.nil, fun x hx => (by cases hx), fun r hr x hx => (by cases hx), fun r hr => ?_, ?_⟩
  · have := (ok r hr).f0; omega
  · have h1 := hk 0 e (by omega)
    have h2 : need rs 0 e 0 = lefts rs 0 e := by unfold need; simp
    rw [h2, lefts_as_cap] at h1
    have : cap rs w e ≤ ((rs.filter fun r => decide (r.l ≤ e)).map fun r => if 0 ≤ r.f then r.r else 0).sum := sum_le fun r hr => by
      have hm := (List.mem_filter.mp hr).1
      rw [hw r hm, if_pos (ok r hm).f0]; exact Int.le_refl _
    omega
  · rw [hw r hr]; simp
  · have : (rs.map fun r => r.r - w r.n).sum = (rs.map fun _ => (0 : Int)).sum := sum_congr fun r hr => by rw [hw r hr]; omega
    have z : ∀ l : List (Rw N), (l.map fun _ => (0 : Int)).sum = 0 := fun l => by
      induction l with
      | nil => rfl
      | cons a l ih => rw [List.map_cons, List.sum_cons, ih]; rfl
    rw [this, z]; rfl
/-- before the work of turn t: those with nothing left that begin now are done -/
theorem J.empty (j : J rs t w fin tr) (nd : (rs.map (·.n)).Nodup) : (∀ z ∈ empt rs t, z ∉ fin) ∧ (fin ++ empt rs t).Nodup ∧ (∀ z ∈ fin ++ empt rs t, z ∈ rs.map (·.n)) ∧ ∀ r ∈ rs, r.n ∈ fin ++ empt rs t ↔ w r.n = 0 ∧ r.f < t + 1 := by
  have hin : ∀ r ∈ rs, r.n ∈ empt rs t ↔ r.f = t ∧ r.r = 0 := fun r hr => by
    unfold empt
    rw [List.mem_map]
    constructor
    · rintro ⟨q, hq, e⟩
      have hm := List.mem_filter.mp hq
      rw [rows_inj nd hm.1 hr e] at hm
      simpa using hm.2
    · rintro ⟨h1, h2⟩
      exact ⟨r, List.mem_filter.mpr ⟨hr, by simp [h1, h2]⟩, rfl⟩
  have hsub : ∀ z ∈ empt rs t, z ∈ rs.map (·.n) := fun z hz => by
    obtain ⟨q, hq, e⟩ := List.mem_map.mp hz
    exact List.mem_map.mpr ⟨q, (List.mem_filter.mp hq).1, e⟩
  have hdis : ∀ z ∈ empt rs t, z ∉ fin := fun z hz hf => by
    obtain ⟨r, hr, rfl⟩ := List.mem_map.mp (hsub z hz)
    have h1 := (hin r hr).mp hz
    have h2 := (j.iff r hr).mp hf
    omega
  refine ⟨hdis, List.nodup_append.mpr ⟨j.nd, (nd.sublist (List.filter_sublist.map _)), fun a ha b hb e => hdis b hb (e ▸ ha)⟩, fun z hz => ?_, fun r hr => ?_⟩
  · rcases List.mem_append.mp hz with h | h
    · exact j.sub z h
    · exact hsub z h
  · rw [List.mem_append, j.iff r hr, hin r hr]
    constructor
    · rintro (h | h)
      · exact ⟨h.1, by omega⟩
      · exact ⟨by rw [j.wf r hr (by omega)]; exact h.2, by omega⟩
    · rintro ⟨h1, h2⟩
      by_cases h3 : r.f < t
      · exact .inl ⟨h1, h3⟩
      · refine .inr ⟨by omega, ?_⟩
        rw [← j.wf r hr (by omega)]; exact h1
theorem J.idle (j : J rs t w fin tr) (hk : Kept rs 0) (nd : (rs.map (·.n)).Nodup) (hb : Best rs t (fin ++ empt rs t) none) : J rs (t + 1) w (fin ++ empt rs t) tr := by
  obtain ⟨_, h2, h3, h4⟩ := j.empty nd
  have none_left : ∀ r ∈ rs, r.f ≤ t → w r.n = 0 := fun r hr hf => by
    have := hb r hr
    by_cases hm : r.n ∈ fin ++ empt rs t
    · exact ((h4 r hr).mp hm).1
    · exact absurd ⟨hf, hm⟩ this
  refine ⟨by have := j.t0; omega, j.w0, fun r hr h => j.wf r hr (by omega), h2, h3, h4, fun e he => cap_le hk (by omega) fun r hr _ => ?_, j.up, fun x hx => by have := j.lt x hx; omega, j.win, j.cnt, j.tot⟩
  by_cases hf : t + 1 ≤ r.f
  · rw [if_pos hf]; exact (j.w0 r hr).2
  · rw [if_neg hf, none_left r hr (by omega)]; exact Int.le_refl _
def setW (w : N → Int) (z : N) (v : Int) : N → Int := fun x => if x = z then v else w x
theorem J.work (j : J rs t w fin tr) (hk : Kept rs 0) (nd : (rs.map (·.n)).Nodup) {b : Rw N} (hb : Best rs t (fin ++ empt rs t) (some b)) :
    1 ≤ w b.n ∧ J rs (t + 1) (setW w b.n (w b.n - 1)) (if w b.n - 1 = 0 then fin ++ empt rs t ++ [b.n] else fin ++ empt rs t) (tr ++ [(t, b.n)]) := by
  obtain ⟨_, h2, h3, h4⟩ := j.empty nd
  obtain ⟨b1, b2, b3, b4⟩ := hb
  have wb : 1 ≤ w b.n := by
    have h5 := (j.w0 b b1).1
    by_cases h6 : w b.n = 0
    · exact absurd ((h4 b b1).mpr ⟨h6, by omega⟩) b3
    · omega
  have bl : t ≤ b.l := by
    by_cases h5 : t ≤ b.l
    · exact h5
    · exfalso
      have h6 := j.cp (t - 1) (Int.le_refl _)
      have h7 := sum_zero (l := rs.filter fun r => decide (r.l ≤ t - 1)) (f := fun r => w r.n) (fun a ha => (j.w0 a (List.mem_filter.mp ha).1).1) (by unfold cap at h6; omega) b (List.mem_filter.mpr ⟨b1, decide_eq_true (by omega)⟩)
      have h8 : w b.n = 0 := h7
      omega
  have ws : ∀ r ∈ rs, r.n ≠ b.n → setW w b.n (w b.n - 1) r.n = w r.n := fun r _ h => if_neg h
  have wself : setW w b.n (w b.n - 1) b.n = w b.n - 1 := if_pos rfl
  refine ⟨wb, by have := j.t0; omega, fun r hr => ?_, fun r hr h => ?_, ?_, fun z hz => ?_, fun r hr => ?_, fun e he => ?_, ?_, fun x hx => ?_, fun r hr x hx e => ?_, fun r hr => ?_, ?_⟩
  · by_cases h : r.n = b.n
    · rw [rows_inj nd hr b1 h, wself]
      have := (j.w0 b b1).2; omega
    · rw [ws r hr h]; exact j.w0 r hr
  · by_cases h5 : r.n = b.n
    · have := rows_inj nd hr b1 h5
      subst this
      omega
    · rw [ws r hr h5]; exact j.wf r hr (by omega)
  · split
    · rw [List.nodup_append]
      exact ⟨h2, by simp, fun a ha c hc e => by rw [List.mem_singleton.mp hc] at e; exact b3 (e ▸ ha)⟩
    · exact h2
  · split at hz
    · rcases List.mem_append.mp hz with h | h
      · exact h3 z h
      · rw [List.mem_singleton.mp h]; exact List.mem_map.mpr ⟨b, b1, rfl⟩
    · exact h3 z hz
  · by_cases h : r.n = b.n
    · have := rows_inj nd hr b1 h
      subst this
      rw [wself]
      split
      · rename_i h5
        simp [h5]; omega
      · rename_i h5
        constructor
        · intro z; exact absurd z b3
        · rintro ⟨z, _⟩; exact absurd z h5
    · rw [ws r hr h, ← h4 r hr]
      split
      · simp [h]
      · rfl
  · -- capacity
    by_cases hlt : e < b.l
    · refine cap_le hk (by omega) fun r hr hl => ?_
      by_cases h : r.n = b.n
      · have := rows_inj nd hr b1 h
        subst this
        omega
      · rw [ws r hr h]
        by_cases hf : t + 1 ≤ r.f
        · rw [if_pos hf]; exact (j.w0 r hr).2
        · rw [if_neg hf]
          by_cases hm : r.n ∈ fin ++ empt rs t
          · rw [((h4 r hr).mp hm).1]; exact Int.le_refl _
          · have := b4 r hr (by omega) hm; omega
    · have h5 := j.cp e (by omega)
      have h6 : cap rs (setW w b.n (w b.n - 1)) e = cap rs w e + (-1) := by
        unfold cap
        refine sum_upd (b := b) (nd.sublist (List.filter_sublist.map _)) (List.mem_filter.mpr ⟨b1, decide_eq_true (by omega)⟩) (fun r hr h => ws r (List.mem_filter.mp hr).1 h) ?_
        show setW w b.n (w b.n - 1) b.n = w b.n + -1
        rw [wself]; omega
      omega
  · rw [List.map_append, List.pairwise_append]
    refine ⟨j.up, by simp, fun a ha c hc => ?_⟩
    obtain ⟨x, hx, rfl⟩ := List.mem_map.mp ha
    have : c = t := by simpa using hc
    rw [this]; exact j.lt x hx
  · rcases List.mem_append.mp hx with h | h
    · have := j.lt x h; omega
    · rw [List.mem_singleton.mp h]; show t < t + 1; omega
  · rcases List.mem_append.mp hx with h | h
    · exact j.win r hr x h e
    · rw [List.mem_singleton.mp h] at e ⊢
      have := rows_inj nd hr b1 e.symm
      subst this
      exact ⟨b2, bl⟩
  · rw [List.filter_append, List.length_append]
    have h5 := j.cnt r hr
    by_cases h : r.n = b.n
    · have := rows_inj nd hr b1 h
      subst this
      rw [wself]
      simp; omega
    · have : ¬ b.n = r.n := fun z => h z.symm
      rw [ws r hr h]
      simp [this]; omega
  · rw [List.length_append]
    have h5 := j.tot
    have h6 : (rs.map fun r => r.r - setW w b.n (w b.n - 1) r.n).sum = (rs.map fun r => r.r - w r.n).sum + 1 :=
      sum_upd (b := b) nd b1 (fun r hr h => by rw [ws r hr h]) (by rw [wself]; omega)
    rw [h6]
    simp; omega
theorem J.stop (j : J rs t w fin tr) (ok : Oks rs) (nd : (rs.map (·.n)).Nodup) (h : fin.length < rs.length) : t < 200 := by
  by_cases ht : t < 200
  · exact ht
  · exfalso
    have h1 := j.cp (t - 1) (Int.le_refl _)
    have h2 : ∀ r ∈ rs, w r.n = 0 := fun r hr => sum_zero (l := rs.filter fun r => decide (r.l ≤ t - 1)) (f := fun r => w r.n) (fun a ha => (j.w0 a (List.mem_filter.mp ha).1).1) (by unfold cap at h1; omega) r
      (List.mem_filter.mpr ⟨hr, decide_eq_true (by have := (ok r hr).l1; omega)⟩)
    have h3 := nodup_le (l := rs.map (·.n)) (m := fin) nd fun z hz => by
      obtain ⟨r, hr, rfl⟩ := List.mem_map.mp hz
      exact (j.iff r hr).mpr ⟨h2 r hr, by have h4 := (ok r hr).fl; have h5 := (ok r hr).l1; omega⟩
    rw [List.length_map] at h3
    omega
theorem J.done (j : J rs t w fin tr) (h : rs.length ≤ fin.length) : (∀ r ∈ rs, ((tr.filter fun x => decide (x.2 = r.n)).length : Int) = r.r) ∧ (tr.length : Int) = (rs.map (·.r)).sum := by
  have h1 := nodup_full j.nd j.sub (by rw [List.length_map]; exact h)
  have h2 : ∀ r ∈ rs, w r.n = 0 := fun r hr => ((j.iff r hr).mp (h1 _ (List.mem_map.mpr ⟨r, hr, rfl⟩))).1
  refine ⟨fun r hr => by rw [j.cnt r hr, h2 r hr]; omega, ?_⟩
  rw [j.tot]
  exact sum_congr fun r hr => by rw [h2 r hr]; omega
end
end Fm

set_option Elab.async false
set_option linter.all false
set_option maxRecDepth 100000
set_option maxHeartbeats 4000000
/-! runs: what is promised -/
namespace Fs
open PySem PySem.Spec PyProof.Rows L2 Evl
open LamX NdefX
/-- all stays but at M -/
def ExM (M : List Addr) (H H' : Hp) : Prop := ∀ b o, H b = some o → b ∉ M → H' b = some o
theorem ExM.refl (M : List Addr) (H : Hp) : ExM M H H := fun _ _ h _ => h
theorem ExM.trans {M : List Addr} {H H1 H2 : Hp} (a : ExM M H H1) (b : ExM M H1 H2) : ExM M H H2 := fun x o h n => b x o (a x o h n) n
theorem ExM.of {M : List Addr} {H H' : Hp} (e : Ex H H') : ExM M H H' := fun b o h _ => e b o h
theorem ExM.upd {M : List Addr} {H H' : Hp} {q : Addr} {o : HO} (e : ExM M H H') (hq : q ∈ M) : ExM M H (upd H' q o) := fun b u h n => (upd_ne fun z => n (by rw [z]; exact hq)).trans (e b u h n)
/-- where a run's things lie -/
structure RunO where
  x : Addr
  dx : Addr
  v : V
  dw : Addr
  dt : Addr
  lt : Addr
  ls : Addr
  df : Addr
  dl : Addr
def RunO.fs (o : RunO) : List (Str × V) := [("known", o.v), ("wanting", .ref o.dw), ("tried", .ref o.dt), ("trodden", .ref o.lt), ("tries", .ref o.ls), ("finish", .ref o.df), ("fallen", .ref o.dl)]
def RunO.M (o : RunO) : List Addr := [o.dw, o.dt, o.lt, o.ls, o.df]
/-- a run under way: w what is wanting, fin the names done, tr the turns trodden -/
structure RunS (p : Pm) (o : RunO) (rs : List Row) (w : Str → Int) (fin : List Str) (tr : List (Int × Str)) (m : Nat) (H : Hp) : Prop where
  ins : H o.x = some (.ins p.CR o.dx o.fs)
  pc : ∀ H', ExM o.M H H' → RPc p o.v rs H'
  nd : o.M.Nodup
  kw : ∃ kvs, H o.dw = some (.dK kvs) ∧ kvs.map (·.1) = rs.map (fun r => (Sum.inr r.n : Key)) ∧ ∀ r ∈ rs, valV kvs (Sum.inr r.n) = some (.int (w r.n))
  kt : ∃ kvs, H o.dt = some (.dK kvs) ∧ kvs.map (·.1) = rs.map (fun r => (Sum.inr r.n : Key)) ∧ ∀ r ∈ rs, ∃ n : Int, 0 ≤ n ∧ valV kvs (Sum.inr r.n) = some (.int n)
  lt : ∃ xs, H o.lt = some (.lst xs) ∧ Are RTurn H xs tr
  ls : ∃ ys, H o.ls = some (.lst ys) ∧ ys.length ≤ m
  df : ∃ kvs, H o.df = some (.dK kvs) ∧ kvs.map (·.1) = fin.map (fun z => (Sum.inr z : Key))
/-- a function that never fails: by_counts of none -/
def FailsOk (p : Pm) (M : List Addr) (f : Addr) (H : Hp) : Prop := ∃ F d, (∃ cl c, F = p.B.L.F cl c) ∧ ∀ H', ExM M H H' → Clo H' f F p.B.b p.B.fr [.ref d] ∧ H' d = some (.dK [])
/-- the promise of by_counts's lambda, of an empty dict -/
def spFails : List V → Sp := fun ws vs H Q _ => ∃ d z n, ws = [.ref d] ∧ vs = [.str z, .int n] ∧ 0 ≤ n ∧ H d = some (.dK []) ∧ ∀ H', Ex H H' → Q (.bl false) H'
def sp_by_counts (p : Pm) : Sp := spMaker p.T p.B.L p.B.b p.B.fr
def sp_Run_end_try (p : Pm) : Sp := fun vs H Q _ => ∃ o rs w fin tr f z len t, vs = [.ref o.x, .str z, .int len, .int t, .ref f] ∧ RunS p o rs w fin tr fin.length H ∧ FailsOk p o.M f H ∧ z ∈ rs.map (·.n) ∧ z ∉ fin ∧ fin.length ≤ 1000 ∧
  ∀ H', ExM o.M H H' → RunS p o rs w (fin ++ [z]) tr (fin ++ [z]).length H' → Q .non H'
def sp_Run_end_empty (p : Pm) : Sp := fun vs H Q _ => ∃ o rs w fin tr f t, vs = [.ref o.x, .int t, .ref f] ∧ RunS p o rs w fin tr fin.length H ∧ FailsOk p o.M f H ∧ (∀ z ∈ Fm.empt rs t, z ∉ fin) ∧ fin.length ≤ 100 ∧
  ∀ H', ExM o.M H H' → RunS p o rs w (fin ++ Fm.empt rs t) tr (fin ++ Fm.empt rs t).length H' → Q .non H'
def sp_Run_work_on (p : Pm) : Sp := fun vs H Q _ => ∃ o rs w fin tr f t, vs = [.ref o.x, .int t, .ref f] ∧ RunS p o rs w fin tr fin.length H ∧ FailsOk p o.M f H ∧ fin.length ≤ 200 ∧ tr.length ≤ 1000 ∧
  ((∀ H', ExM o.M H H' → Fm.Best rs t fin none → RunS p o rs w fin tr fin.length H' → Q .non H') ∧
  ∀ H' b, ExM o.M H H' → Fm.Best rs t fin (some b) → RunS p o rs (Fm.setW w b.n (w b.n - 1)) (if w b.n - 1 = 0 then fin ++ [b.n] else fin) (tr ++ [(t, b.n)]) (if w b.n - 1 = 0 then fin ++ [b.n] else fin).length H' → Q .non H')
def sp_Run_init (p : Pm) : Sp := spI p.CR fun vs H R => ∃ v rs f F d, vs = [v, .ref f] ∧ RPc p v rs H ∧ Fm.Kept rs 0 ∧ (∃ cl c, F = p.B.L.F cl c) ∧ Clo H f F p.B.b p.B.fr [.ref d] ∧ H d = some (.dK []) ∧ R = fun u H' => ∃ o, OrdOk rs o ∧ RRun p o u H'
def sp_run (p : Pm) : Sp := fun vs H Q _ => ∃ v rs d, vs = [v, .ref d] ∧ RPc p v rs H ∧ Fm.Kept rs 0 ∧ H d = some (.dK []) ∧ Tabs p.T H ∧ ∀ u H' o, ExtN H H' → Tabs p.T H' → OrdOk rs o → RRun p o u H' → Q u H'
def sp_Kept_order (p : Pm) : Sp := fun vs H Q _ => ∃ v q d, vs = [v, .ref d] ∧ RKept p v q H ∧ Fm.Kept q.1 0 ∧ H d = some (.dK []) ∧ Tabs p.T H ∧ ∀ u H' o, ExtN H H' → Tabs p.T H' → OrdOk q.1 o → LsAt RTurn u o H' → Q u H'
end Fs

set_option Elab.async false
set_option linter.all false
set_option maxRecDepth 100000
set_option maxHeartbeats 4000000
/-! the readings (printed by gen_walk.py) -/
namespace Fs
open PySem PySem.Spec PyProof.Rows L2 Evl
/-- Run.end_try -/
def t_Run_end_try (p : Pm) : TS := (tSeq (tAsg (tDGet (tFld p.K (tVar 0) "tried") (tVar 1)) (gName 5))
  (tSeq (sDPut (tFld p.K (tVar 0) "tried") (tVar 1) (tOp rAddI (tVar 5) (tC (.int 1))))
  (tIfS (tB (tLamv p.B.L p.B.b p.B.fr p.B.sp 4 (tCons (tVar 1) (tCons (tVar 5) tNil)))) tNever (tSeq (tDrop (tBM p.K "list" rAppend (tFld p.K (tVar 0) "tries") (tCons (tTup (tCons (tVar 1) (tCons (tVar 5) (tCons (tVar 3) (tCons (tC (.str "done")) tNil))))) tNil)))
  (sDPut (tFld p.K (tVar 0) "finish") (tVar 1) (tVar 3))))))
/-- Run.end_empty -/
def t_Run_end_empty (p : Pm) : TS := (tFor (iTup p.K (tMeth p.CP "told" (sp_Pieces_told p) [] E0 (tFld p.K (tVar 0) "known") tNil)) (gTup p.K 5 (gCons (gName 3) (gCons (gName 4) (gCons (gName 5) (gCons (gName 6) (gCons (gName 7) gNil)))))) (tIfS (tAnd (tTest (tOp rEq (tVar 4) (tVar 1))) (tTest (tOp rEq (tVar 7) (tC (.int 0))))) (tDrop (tMeth p.CR "end_try" (sp_Run_end_try p) [] E0 (tVar 0) (tCons (tVar 3) (tCons (tVar 6) (tCons (tOp rSubI (tVar 1) (tC (.int 1))) (tCons (tVar 2) tNil)))))) tNext))
/-- Run.work_on -/
def t_Run_work_on (p : Pm) : TS := (tSeq (tAsg (tC .non) (gName 3))
  (tSeq (tAsg (tMeth p.CP "told" (sp_Pieces_told p) [] E0 (tFld p.K (tVar 0) "known") tNil) (gName 4))
  (tSeq (tIfS (tB (tMeth p.CR "rests" (sp_Run_rests p) [] E0 (tVar 0) (tCons (tVar 1) tNil))) tNever tNext)
  (tSeq (tFor (iTup p.K (tVar 4)) (gName 5) (tIfS (tAnd (tTest (tOp rLeI (tOp (rIxT p.K) (tVar 5) (tC (.int 1))) (tVar 1))) (tAnd (tB (tDNotIn (tOp (rIxT p.K) (tVar 5) (tC (.int 0))) (tFld p.K (tVar 0) "finish"))) (tOr (tTest (tOp rIsNo (tVar 3) (tC .non))) (tTest (tOp rLtI (tOp (rIxT p.K) (tVar 5) (tC (.int 2))) (tOp (rIxT p.K) (tVar 3) (tC (.int 2)))))))) (tAsg (tVar 5) (gName 3)) tNext))
  (tIfS (tTest (tOp rNotNo (tVar 3) (tC .non))) (tSeq (tAsg (tOp (rIxT p.K) (tVar 3) (tC (.int 0))) (gName 6))
  (tSeq (tDrop (tBM p.K "list" rAppend (tFld p.K (tVar 0) "trodden") (tCons (tTup (tCons (tVar 1) (tCons (tVar 6) tNil))) tNil)))
  (tSeq (sDAug (tFld p.K (tVar 0) "wanting") (tVar 6) (tC (.int 1)) rSub)
  (tIfS (tTest (tOp rEq (tDGet (tFld p.K (tVar 0) "wanting") (tVar 6)) (tC (.int 0)))) (tDrop (tMeth p.CR "end_try" (sp_Run_end_try p) [] E0 (tVar 0) (tCons (tVar 6) (tCons (tOp (rIxT p.K) (tVar 3) (tC (.int 3))) (tCons (tVar 1) (tCons (tVar 2) tNil)))))) tNext)))) tNext)))))
/-- Run.__init__ -/
def t_Run_init (p : Pm) : TS := (tSeq (sFld p.K (tVar 0) (tVar 1) "known")
  (tSeq (sFld p.K (tVar 0) tDNewK "wanting")
  (tSeq (sFld p.K (tVar 0) tDNewK "tried")
  (tSeq (tFor (iTup p.K (tMeth p.CP "told" (sp_Pieces_told p) [] E0 (tVar 1) tNil)) (gTup p.K 5 (gCons (gName 3) (gCons (gName 4) (gCons (gName 5) (gCons (gName 6) (gCons (gName 7) gNil)))))) (tSeq (sDPut (tFld p.K (tVar 0) "wanting") (tVar 3) (tVar 7))
  (sDPut (tFld p.K (tVar 0) "tried") (tVar 3) (tC (.int 0)))))
  (tSeq (sFld p.K (tVar 0) (tLst tNil) "trodden")
  (tSeq (sFld p.K (tVar 0) (tLst tNil) "tries")
  (tSeq (sFld p.K (tVar 0) tDNewK "finish")
  (tSeq (sFld p.K (tVar 0) tDNewK "fallen")
  (tSeq (tAsg (tC (.int 0)) (gName 8))
  (tWhile (tTest (tOp rLtI (tCB rLenD (tCons (tFld p.K (tVar 0) "finish") tNil)) (tCB rLenD (tCons (tFld p.K (tVar 0) "wanting") tNil)))) (tSeq (tDrop (tMeth p.CR "end_empty" (sp_Run_end_empty p) [] E0 (tVar 0) (tCons (tVar 8) (tCons (tVar 2) tNil))))
  (tSeq (tDrop (tMeth p.CR "work_on" (sp_Run_work_on p) [] E0 (tVar 0) (tCons (tVar 8) (tCons (tVar 2) tNil))))
  (tAug 8 (tC (.int 1)) (ipI fun i j => i + j))))))))))))))
/-- run -/
def t_run (p : Pm) : TS := (tSeq (tDrop (tCall (sp_need_counts p) [] E0 (tCons (tVar 0) (tCons (tVar 1) tNil))))
  (tRet (tMake p.CR (sp_Run_init p) [] E0 (tCons (tVar 0) (tCons (tCall (sp_by_counts p) [] E0 (tCons (tCB rDictD (tCons (tVar 1) tNil)) tNil)) tNil)))))
/-- Kept.order -/
def t_Kept_order (p : Pm) : TS := (tSeq (tAsg (tCall (sp_run p) [] E0 (tCons (tFld p.K (tVar 0) "held") (tCons (tVar 1) tNil))) (gName 2))
  (tSeq (tIfS (tTest (tOp rGtI (tCB rSumV0 (tCons (tVals (tVar 1)) tNil)) (tFld p.K (tVar 0) "most"))) tNever tNext)
  (tRet (tMeth p.CR "rows" (sp_Run_rows p) [] E0 (tVar 2) tNil))))
end Fs

set_option Elab.async false
set_option linter.all false
set_option maxRecDepth 100000
set_option maxHeartbeats 4000000
/-! READINGS -/
namespace Fs
open PySem PySem.Spec PyProof.Rows L2 Evl
open LamX NdefX
/-! ### a run's things -/
section
variable {p : Pm} {o : RunO} {rs : List Row} {w : Str → Int} {fin : List Str} {tr : List (Int × Str)} {m : Nat} {H H' : Hp}
theorem RunO.ne (h : o.M.Nodup) : (o.dw ≠ o.dt ∧ o.dw ≠ o.lt ∧ o.dw ≠ o.ls ∧ o.dw ≠ o.df) ∧ (o.dt ≠ o.lt ∧ o.dt ≠ o.ls ∧ o.dt ≠ o.df) ∧ (o.lt ≠ o.ls ∧ o.lt ≠ o.df) ∧ o.ls ≠ o.df := by
  simp only [RunO.M, List.nodup_cons, List.mem_cons, List.not_mem_nil, or_false, not_or, List.nodup_nil, and_true, not_false_eq_true] at h
  exact ⟨h.1, h.2.1, h.2.2.1, h.2.2.2⟩
theorem RunS.kind (S : RunS p o rs w fin tr m H) {q : Addr} (hq : q ∈ o.M) : (∃ kvs, H q = some (.dK kvs)) ∨ ∃ xs, H q = some (.lst xs) := by
  simp only [RunO.M, List.mem_cons, List.not_mem_nil, or_false] at hq
  rcases hq with rfl | rfl | rfl | rfl | rfl
  · obtain ⟨k, h, _⟩ := S.kw; exact .inl ⟨k, h⟩
  · obtain ⟨k, h, _⟩ := S.kt; exact .inl ⟨k, h⟩
  · obtain ⟨k, h, _⟩ := S.lt; exact .inr ⟨k, h⟩
  · obtain ⟨k, h, _⟩ := S.ls; exact .inr ⟨k, h⟩
  · obtain ⟨k, h, _⟩ := S.df; exact .inl ⟨k, h⟩
theorem RunS.xM (S : RunS p o rs w fin tr m H) : o.x ∉ o.M := fun h => by
  have := S.ins
  rcases S.kind h with ⟨k, e⟩ | ⟨k, e⟩ <;> rw [e] at this <;> cases this
theorem RunS.tM (S : RunS p o rs w fin tr m H) {q : Addr} {xs : List V} (h : H q = some (.tup xs)) : q ∉ o.M := fun hq => by
  rcases S.kind hq with ⟨k, e⟩ | ⟨k, e⟩ <;> rw [e] at h <;> cases h
theorem RunS.ex (S : RunS p o rs w fin tr m H) (e : Ex H H') : RunS p o rs w fin tr m H' := by
  obtain ⟨k1, a1, b1, c1⟩ := S.kw
  obtain ⟨k2, a2, b2, c2⟩ := S.kt
  obtain ⟨k3, a3, b3⟩ := S.lt
  obtain ⟨k4, a4, b4⟩ := S.ls
  obtain ⟨k5, a5, b5⟩ := S.df
  exact ⟨e _ _ S.ins, fun H2 h => S.pc H2 ((ExM.of e).trans h), S.nd, ⟨k1, e _ _ a1, b1, c1⟩, ⟨k2, e _ _ a2, b2, c2⟩, ⟨k3, e _ _ a3, b3.mono rturn_lst.l e⟩, ⟨k4, e _ _ a4, b4⟩, ⟨k5, e _ _ a5, b5⟩⟩
theorem FailsOk.mono {M : List Addr} {f : Addr} (h : FailsOk p M f H) (e : ExM M H H') : FailsOk p M f H' := by
  obtain ⟨F, d, hF, k⟩ := h
  exact ⟨F, d, hF, fun H2 h2 => k H2 (e.trans h2)⟩
def rowT (r : Int × Str) : List V := [.int r.1, .str r.2]
theorem are_upd {q : Addr} {u : HO} {xs : List V} (hq : ∀ ys, H q ≠ some (.tup ys)) (a : Are RTurn H xs tr) : Are RTurn (upd H q u) xs tr :=
  Paired.mapP a fun v r ⟨b, e, hb⟩ => ⟨b, e, (upd_ne fun z => hq (rowT r) (by rw [← z]; exact hb)).trans hb⟩
theorem RunS.nt (S : RunS p o rs w fin tr m H) {q : Addr} (hq : q ∈ o.M) : ∀ ys, H q ≠ some (.tup ys) := fun ys h => S.tM h hq
theorem RunS.pcU (S : RunS p o rs w fin tr m H) {q : Addr} {u : HO} (hq : q ∈ o.M) : ∀ H2, ExM o.M (upd H q u) H2 → RPc p o.v rs H2 := fun H2 h => S.pc H2 (((ExM.refl _ _).upd hq).trans h)
theorem RunS.insU (S : RunS p o rs w fin tr m H) {q : Addr} {u : HO} (hq : q ∈ o.M) : (upd H q u : Hp) o.x = some (.ins p.CR o.dx o.fs) := (upd_ne fun z => S.xM (by rw [z]; exact hq)).trans S.ins
theorem RunS.dt (S : RunS p o rs w fin tr m H) {kvs : List (Key × V)} (h1 : kvs.map (·.1) = rs.map (fun r => (Sum.inr r.n : Key))) (h2 : ∀ r ∈ rs, ∃ n : Int, 0 ≤ n ∧ valV kvs (Sum.inr r.n) = some (.int n)) : RunS p o rs w fin tr m (upd H o.dt (.dK kvs)) := by
  have hm : o.dt ∈ o.M := by simp [RunO.M]
  obtain ⟨⟨n1, n2, n3, n4⟩, ⟨n5, n6, n7⟩, ⟨n8, n9⟩, n10⟩ := RunO.ne S.nd
  obtain ⟨k1, a1, b1, c1⟩ := S.kw
  obtain ⟨k3, a3, b3⟩ := S.lt
  obtain ⟨k4, a4, b4⟩ := S.ls
  obtain ⟨k5, a5, b5⟩ := S.df
  exact ⟨S.insU hm, S.pcU hm, S.nd, ⟨k1, (upd_ne n1).trans a1, b1, c1⟩, ⟨kvs, upd_same, h1, h2⟩, ⟨k3, (upd_ne n5.symm).trans a3, are_upd (S.nt hm) b3⟩, ⟨k4, (upd_ne n6.symm).trans a4, b4⟩, ⟨k5, (upd_ne n7.symm).trans a5, b5⟩⟩
theorem RunS.wn (S : RunS p o rs w fin tr m H) {w' : Str → Int} {kvs : List (Key × V)} (h1 : kvs.map (·.1) = rs.map (fun r => (Sum.inr r.n : Key))) (h2 : ∀ r ∈ rs, valV kvs (Sum.inr r.n) = some (.int (w' r.n))) : RunS p o rs w' fin tr m (upd H o.dw (.dK kvs)) := by
  have hm : o.dw ∈ o.M := by simp [RunO.M]
  obtain ⟨⟨n1, n2, n3, n4⟩, ⟨n5, n6, n7⟩, ⟨n8, n9⟩, n10⟩ := RunO.ne S.nd
  obtain ⟨k2, a2, b2, c2⟩ := S.kt
  obtain ⟨k3, a3, b3⟩ := S.lt
  obtain ⟨k4, a4, b4⟩ := S.ls
  obtain ⟨k5, a5, b5⟩ := S.df
  exact ⟨S.insU hm, S.pcU hm, S.nd, ⟨kvs, upd_same, h1, h2⟩, ⟨k2, (upd_ne n1.symm).trans a2, b2, c2⟩, ⟨k3, (upd_ne n2.symm).trans a3, are_upd (S.nt hm) b3⟩, ⟨k4, (upd_ne n3.symm).trans a4, b4⟩, ⟨k5, (upd_ne n4.symm).trans a5, b5⟩⟩
theorem RunS.tro (S : RunS p o rs w fin tr m H) {tr' : List (Int × Str)} {xs : List V} (h : Are RTurn (upd H o.lt (.lst xs)) xs tr') : RunS p o rs w fin tr' m (upd H o.lt (.lst xs)) := by
  have hm : o.lt ∈ o.M := by simp [RunO.M]
  obtain ⟨⟨n1, n2, n3, n4⟩, ⟨n5, n6, n7⟩, ⟨n8, n9⟩, n10⟩ := RunO.ne S.nd
  obtain ⟨k1, a1, b1, c1⟩ := S.kw
  obtain ⟨k2, a2, b2, c2⟩ := S.kt
  obtain ⟨k4, a4, b4⟩ := S.ls
  obtain ⟨k5, a5, b5⟩ := S.df
  exact ⟨S.insU hm, S.pcU hm, S.nd, ⟨k1, (upd_ne n2).trans a1, b1, c1⟩, ⟨k2, (upd_ne n5).trans a2, b2, c2⟩, ⟨xs, upd_same, h⟩, ⟨k4, (upd_ne n8.symm).trans a4, b4⟩, ⟨k5, (upd_ne n9.symm).trans a5, b5⟩⟩
theorem RunS.tri (S : RunS p o rs w fin tr m H) {m' : Nat} {ys : List V} (h : ys.length ≤ m') : RunS p o rs w fin tr m' (upd H o.ls (.lst ys)) := by
  have hm : o.ls ∈ o.M := by simp [RunO.M]
  obtain ⟨⟨n1, n2, n3, n4⟩, ⟨n5, n6, n7⟩, ⟨n8, n9⟩, n10⟩ := RunO.ne S.nd
  obtain ⟨k1, a1, b1, c1⟩ := S.kw
  obtain ⟨k2, a2, b2, c2⟩ := S.kt
  obtain ⟨k3, a3, b3⟩ := S.lt
  obtain ⟨k5, a5, b5⟩ := S.df
  exact ⟨S.insU hm, S.pcU hm, S.nd, ⟨k1, (upd_ne n3).trans a1, b1, c1⟩, ⟨k2, (upd_ne n6).trans a2, b2, c2⟩, ⟨k3, (upd_ne n8).trans a3, are_upd (S.nt hm) b3⟩, ⟨ys, upd_same, h⟩, ⟨k5, (upd_ne n10.symm).trans a5, b5⟩⟩
theorem RunS.fi (S : RunS p o rs w fin tr m H) {fin' : List Str} {kvs : List (Key × V)} (h : kvs.map (·.1) = fin'.map (fun z => (Sum.inr z : Key))) : RunS p o rs w fin' tr m (upd H o.df (.dK kvs)) := by
  have hm : o.df ∈ o.M := by simp [RunO.M]
  obtain ⟨⟨n1, n2, n3, n4⟩, ⟨n5, n6, n7⟩, ⟨n8, n9⟩, n10⟩ := RunO.ne S.nd
  obtain ⟨k1, a1, b1, c1⟩ := S.kw
  obtain ⟨k2, a2, b2, c2⟩ := S.kt
  obtain ⟨k3, a3, b3⟩ := S.lt
  obtain ⟨k4, a4, b4⟩ := S.ls
  exact ⟨S.insU hm, S.pcU hm, S.nd, ⟨k1, (upd_ne n4).trans a1, b1, c1⟩, ⟨k2, (upd_ne n7).trans a2, b2, c2⟩, ⟨k3, (upd_ne n9).trans a3, are_upd (S.nt hm) b3⟩, ⟨k4, (upd_ne n10).trans a4, b4⟩, ⟨kvs, upd_same, h⟩⟩
end
theorem putK_keys {kvs : List (Key × V)} {k : Key} {v u : V} (h : valV kvs k = some u) : (putK kvs k v).map (·.1) = kvs.map (·.1) := by
  unfold putK
  have := valV_any k kvs
  rw [h] at this
  rw [if_pos (by rw [this]; rfl), List.map_map]
  refine List.map_congr_left fun kv _ => ?_
  show (if kv.1 = k then (kv.1, v) else kv).1 = kv.1
  split <;> rfl
theorem fin_none {kvs : List (Key × V)} {fin : List Str} {z : Str} (h : kvs.map (·.1) = fin.map (fun z => (Sum.inr z : Key))) (hz : z ∉ fin) : valV kvs (Sum.inr z) = none := by
  cases q : valV kvs (Sum.inr z) with
  | none => rfl
  | some v =>
    have := valV_in q
    rw [h] at this
    obtain ⟨y, hy, e⟩ := List.mem_map.mp this
    exact absurd (Sum.inr.inj e ▸ hy) hz
theorem fin_some {kvs : List (Key × V)} {fin : List Str} {z : Str} (h : kvs.map (·.1) = fin.map (fun z => (Sum.inr z : Key))) : (valV kvs (Sum.inr z)).isSome = decide (z ∈ fin) := by
  by_cases hz : z ∈ fin
  · rw [decide_eq_true hz, ← valV_any]
    have : (Sum.inr z : Key) ∈ kvs.map (·.1) := by rw [h]; exact List.mem_map.mpr ⟨z, hz, rfl⟩
    obtain ⟨kv, hkv, e⟩ := List.mem_map.mp this
    exact List.any_eq_true.mpr ⟨kv, hkv, decide_eq_true e⟩
  · rw [decide_eq_false hz, fin_none h hz]; rfl
/-- fails(name, number): no -/
theorem ev_fails {p : Pm} (hB : p.B.sp = spFails) {σ : L2.St} {H : Hp} {ta tb : TE} {M : List Addr} {f : Addr} {z : Str} {n : Int} {i : Nat} (hi : σ[i]? = some (some (.ref f))) (h : FailsOk p M f H) (ha : Ev ta σ H (.str z)) (hb : Ev tb σ H (.int n)) (h0 : 0 ≤ n) :
    Ev (tLamv p.B.L p.B.b p.B.fr p.B.sp i (tCons ta (tCons tb tNil))) σ H (.bl false) := fun H1 e Q q => by
  obtain ⟨F, d, ⟨cl, c, rfl⟩, k⟩ := h
  refine ⟨f, hi, ⟨_, ((k H1 (ExM.of e)).1).fn⟩, (ea_cons ha (ea_cons hb ea_nil)) H1 e _ fun H2 e2 => ⟨cl, c, [.ref d], (k H2 (ExM.of (e.trans e2))).1, ?_⟩⟩
  obtain ⟨C, hd⟩ := k H2 (ExM.of (e.trans e2))
  rw [hB]
  have hc := C.isC
  refine ⟨d, z, n, rfl, rfl, h0, (dropC_out (hc.out hd fun _ z => nomatch z)).trans hd, fun H3 e3 hno => q _ (e2.trans fun b o hb => ?_)⟩
  by_cases hm : b ∈ cellsOf (p.B.L.F cl c)
  · rw [putC_in hm]; exact hb
  · rw [putC_out hm]; exact e3 b o (by rw [dropC_out hm]; exact hb)
theorem s_dput {D : Ends} {σ : L2.St} {H : Hp} {td ty tv : TE} {v : V} {d : Addr} {k : Key} {kvs : List (Key × V)} (hv : Ev tv σ H v) (hd : Ev td σ H (.ref d)) (hy : Ev ty σ H (kV k)) (h : H d = some (.dK kvs)) (hl : kvs.length < 100000) (c : ∀ H1, Ex H H1 → D.nx σ (upd H1 d (.dK (putK kvs k v)))) : sDPut td ty tv D σ H :=
  hv H (Ex.refl H) _ fun H1 e1 => hd H1 e1 _ fun H2 e2 => hy H2 (e1.trans e2) _ fun H3 e3 => ⟨d, _, rfl, DPut.k (k := k) (e3 _ _ (e2 _ _ (e1 _ _ h))) (sz_lt hl), c H3 ((e1.trans e2).trans e3)⟩
theorem q_dput {D : Ends} {tz : TS} {σ : L2.St} {H : Hp} {td ty tv : TE} {v : V} {d : Addr} {k : Key} {kvs : List (Key × V)} (hv : Ev tv σ H v) (hd : Ev td σ H (.ref d)) (hy : Ev ty σ H (kV k)) (h : H d = some (.dK kvs)) (hl : kvs.length < 100000) (c : ∀ H1, Ex H H1 → tz D σ (upd H1 d (.dK (putK kvs k v)))) : tSeq (sDPut td ty tv) tz D σ H :=
  s_dput (D := { D with nx := tz D }) hv hd hy h hl c
theorem rd_Run_end_try (p : Pm) (ok : PmOk p) (hB : p.B.sp = spFails) : Keeps (t_Run_end_try p) ["self", "name", "length", "turn", "fails", "number"] (sp_Run_end_try p) := fun vs H Q E ⟨o, rs, w, fin, tr, f, z, len, t, ev, S, hf, hz, hn, hlen, hq⟩ => by
  subst ev
  obtain ⟨r, hr, rfl⟩ := List.mem_map.mp hz
  obtain ⟨kt, t1, t2, t3⟩ := id S.kt
  obtain ⟨n, n0, n1⟩ := t3 r hr
  have hklen : kt.length = rs.length := by have := congrArg List.length t2; rw [List.length_map, List.length_map] at this; exact this
  have hrs : rs.length ≤ 30 := (S.pc H (ExM.refl _ _)).1.len
  have mdt : o.dt ∈ o.M := by simp [RunO.M]
  have mls : o.ls ∈ o.M := by simp [RunO.M]
  have mdf : o.df ∈ o.M := by simp [RunO.M]
  refine q_asg (v := .int n) (ev_dget (k := Sum.inr r.n) (ev_fld (ev_var rfl) S.ins ok.cR ok.nR3 rfl) (ev_var rfl) t1 n1) fun H1 e1 => ?_
  refine q_dput (v := .int (n + 1)) (k := Sum.inr r.n) (ev_op (ev_var rfl) ev_c rv_I0) (ev_fld (ev_var rfl) (S.ex e1).ins ok.cR ok.nR3 rfl) (ev_var rfl) (e1 _ _ t1) (by omega) fun H2 e2 => ?_
  have S2 := (S.ex (e1.trans e2)).dt (kvs := putK kt (Sum.inr r.n) (.int (n + 1))) (by rw [putK_keys n1, t2]) (fun q hq' => by
    rw [valV_put]
    split
    · exact ⟨n + 1, by omega, rfl⟩
    · exact t3 q hq')
  have x2 : ExM o.M H (upd H2 o.dt (.dK (putK kt (Sum.inr r.n) (.int (n + 1))))) := (ExM.of (e1.trans e2)).upd mdt
  refine s_if (et_B (ev_fails hB (z := r.n) (n := n) rfl (hf.mono x2) (ev_var rfl) (ev_var rfl) n0)) (fun h => by cases h) fun _ H3 e3 => ?_
  have S3 := S2.ex e3
  have x3 := x2.trans (ExM.of e3)
  obtain ⟨ys, y1, y2⟩ := id S3.ls
  refine q_appR (R := fun _ _ => True) y1 (ev_fld (ev_var rfl) S3.ins ok.cR ok.nR5 rfl) ((evr_tupA (ea_cons (ev_var rfl) (ea_cons (ev_var rfl) (ea_cons (ev_var rfl) (ea_cons ev_c ea_nil)))) (by simp)).imp fun _ _ _ _ => trivial) (by omega) fun v4 H4 e4 _ => ?_
  have S4 := (S3.ex e4).tri (m' := fin.length + 1) (ys := ys ++ [v4]) (by rw [List.length_append, List.length_singleton]; omega)
  have x4 : ExM o.M H (upd H4 o.ls (.lst (ys ++ [v4]))) := (x3.trans (ExM.of e4)).upd mls
  obtain ⟨kf, f1, f2⟩ := id S4.df
  have hkf : kf.length = fin.length := by have := congrArg List.length f2; rw [List.length_map, List.length_map] at this; exact this
  refine s_dput (v := .int t) (k := Sum.inr r.n) (ev_var rfl) (ev_fld (ev_var rfl) S4.ins ok.cR ok.nR6 rfl) (ev_var rfl) f1 (by omega) fun H5 e5 => ?_
  refine hq _ ((x4.trans (ExM.of e5)).upd mdf) ?_
  have S5 := (S4.ex e5).fi (fin' := fin ++ [r.n]) (kvs := putK kf (Sum.inr r.n) (.int t)) (by rw [putK_new _ (fin_none f2 hn), List.map_append, List.map_append, f2]; rfl)
  rw [List.length_append]; exact S5
theorem ev_known {p : Pm} (ok : PmOk p) {o : RunO} {rs : List Row} {w : Str → Int} {fin : List Str} {tr : List (Int × Str)} {m : Nat} {H : Hp} {σ : L2.St} (S : RunS p o rs w fin tr m H) (h : σ[0]? = some (some (.ref o.x))) :
    EvR (tMeth p.CP "told" (sp_Pieces_told p) [] E0 (tFld p.K (tVar 0) "known") tNil) σ H (NewT RRow rs) := evr_told (ev_fld (ev_var h) S.ins ok.cR ok.nR1 rfl) (S.pc H (ExM.refl _ _))
theorem empt_take {rs : List Row} {t : Int} {i : Nat} {r : Row} (h : rs[i]? = some r) : Fm.empt (rs.take (i + 1)) t = Fm.empt (rs.take i) t ++ if r.f = t ∧ r.r = 0 then [r.n] else [] := by
  unfold Fm.empt
  have : rs.take (i + 1) = rs.take i ++ [r] := by rw [List.take_add_one, h]; rfl
  rw [this, List.filter_append, List.map_append]
  congr 1
  by_cases hc : r.f = t ∧ r.r = 0
  · rw [if_pos hc]; simp [hc.1, hc.2]
  · rw [if_neg hc, List.filter_cons_of_neg (by simpa using hc)]; rfl
theorem empt_len (rs : List Row) (t : Int) : (Fm.empt rs t).length ≤ rs.length := by
  unfold Fm.empt; rw [List.length_map]; exact List.length_filter_le _ _
theorem take_sub {α : Type} {l : List α} {i : Nat} {a : α} (h : a ∈ l.take i) : a ∈ l := List.mem_of_mem_take h
theorem rd_Run_end_empty (p : Pm) (ok : PmOk p) : Keeps (t_Run_end_empty p) ["self", "turn", "fails", "name", "first", "last", "length", "left"] (sp_Run_end_empty p) := fun vs H Q E ⟨o, rs, w, fin, tr, f, t, ev, S, hf, hdis, hlen, hq⟩ => by
  subst ev
  have hw := (S.pc H (ExM.refl _ _)).1
  refine (ev_known ok S rfl) H (Ex.refl H) _ fun u H1 e1 ⟨a, xs, eu, ha, ar⟩ => ⟨a, eu, ⟨xs, st_of ha⟩, ?_⟩
  have S1 := S.ex e1
  have f1 := hf.mono (ExM.of e1)
  have aM := S1.tM ha
  refine for_tup (xs := xs) (fun i σ H' => σ[0]? = some (some (.ref o.x)) ∧ σ[1]? = some (some (.int t)) ∧ σ[2]? = some (some (.ref f)) ∧ σ.length = 8 ∧ ExM o.M H1 H' ∧ RunS p o rs w (fin ++ Fm.empt (rs.take i) t) tr (fin ++ Fm.empt (rs.take i) t).length H')
    ⟨rfl, rfl, rfl, rfl, ExM.refl _ _, by simpa [Fm.empt] using S1⟩ (fun i σ H' _ ⟨_, _, _, _, e, _⟩ => st_of (e _ _ ha aM)) (fun i x σ H' hi ⟨s0, s1, s2, sl, eM, Si⟩ => ?_) (fun σ H' ⟨s0, s1, s2, sl, eM, Si⟩ => ?_)
  · obtain ⟨r, hr, b, rfl, hb⟩ := ar.get hi
    have hrm := List.mem_of_getElem? hr
    have hb' := eM _ _ hb (S1.tM hb)
    refine ⟨b, _, rfl, st_of hb', rfl, .str r.n, _, rfl, .int r.f, _, rfl, .int r.l, _, rfl, .int r.c, _, rfl, .int r.r, [], rfl, rfl, ?_⟩
    generalize hσ : (((((σ.set 3 (some (V.str r.n))).set 4 (some (V.int r.f))).set 5 (some (V.int r.l))).set 6 (some (V.int r.c))).set 7 (some (V.int r.r))) = σ2
    have w0 : σ2[0]? = some (some (.ref o.x)) := by rw [← hσ]; simp [s0]
    have w1 : σ2[1]? = some (some (.int t)) := by rw [← hσ]; simp [s1]
    have w2 : σ2[2]? = some (some (.ref f)) := by rw [← hσ]; simp [s2]
    have w3 : σ2[3]? = some (some (.str r.n)) := by rw [← hσ]; simp [sl]
    have w4 : σ2[4]? = some (some (.int r.f)) := by rw [← hσ]; simp [sl]
    have w6 : σ2[6]? = some (some (.int r.c)) := by rw [← hσ]; simp [sl]
    have w7 : σ2[7]? = some (some (.int r.r)) := by rw [← hσ]; simp [sl]
    have wl : σ2.length = 8 := by rw [← hσ]; simp [sl]
    have lenI := empt_len (rs.take i) t
    have lt30 := hw.len
    have ltI : (rs.take i).length ≤ 30 := by rw [List.length_take]; omega
    refine s_when (et_and (et_test (ev_op (ev_var w4) (ev_var w1) (rv_eq rfl))) fun _ => et_test (ev_op (ev_var w7) ev_c (rv_eq rfl))) (fun hc H2 e2 => ?_) fun hc H2 e2 => ⟨w0, w1, w2, wl, eM.trans (ExM.of e2), ?_⟩
    · rw [Bool.and_eq_true] at hc
      have h1 : r.f = t := V.int.inj (of_decide_eq_true hc.1)
      have h2 : r.r = 0 := V.int.inj (of_decide_eq_true hc.2)
      have S2 := Si.ex e2
      have hni : r.n ∉ fin ++ Fm.empt (rs.take i) t := fun hm => by
        rcases List.mem_append.mp hm with hm | hm
        · exact hdis r.n (List.mem_map.mpr ⟨r, List.mem_filter.mpr ⟨hrm, by simp [h1, h2]⟩, rfl⟩) hm
        · obtain ⟨q, hq', e⟩ := List.mem_map.mp hm
          have hq2 := (List.mem_filter.mp hq').1
          have nd := hw.nd
          have e5 : rs = rs.take i ++ rs.drop i := (List.take_append_drop i rs).symm
          rw [e5, List.map_append, List.nodup_append] at nd
          have hdr : r ∈ rs.drop i := List.mem_of_getElem? (i := 0) (by rw [List.getElem?_drop]; exact hr)
          exact nd.2.2 _ (List.mem_map.mpr ⟨q, hq2, e⟩) _ (List.mem_map.mpr ⟨r, hdr, rfl⟩) rfl
      refine ⟨.ref o.x, w0, o.x, o.dx, o.fs, rfl, S2.ins, rfl, ?_⟩
      refine (ea_cons (ev_var w3) (ea_cons (ev_var w6) (ea_cons (ev_op (ev_var w1) ev_c rv_I0) (ea_cons (ev_var w2) ea_nil)))) H2 (Ex.refl H2) _ fun H3 e3 => ?_
      refine ⟨o, rs, w, _, tr, f, r.n, r.c, t - 1, rfl, S2.ex e3, f1.mono ((eM.trans (ExM.of e2)).trans (ExM.of e3)), List.mem_map.mpr ⟨r, hrm, rfl⟩, hni, by rw [List.length_append]; omega, fun H4 x4 S4 => ⟨w0, w1, w2, wl, ((eM.trans (ExM.of e2)).trans (ExM.of e3)).trans x4, ?_⟩⟩
      rw [empt_take hr, if_pos ⟨h1, h2⟩, ← List.append_assoc]
      exact S4
    · have hno : ¬ (r.f = t ∧ r.r = 0) := fun ⟨a, b⟩ => by rw [a, b] at hc; simp at hc
      rw [empt_take hr, if_neg hno, List.append_nil]
      exact Si.ex e2
  · rw [ar.length, List.take_length] at Si
    exact hq _ ((ExM.of e1).trans eM) Si
theorem ev_dnotin {σ : L2.St} {H : Hp} {d : Addr} {kvs : List (Key × V)} {k : Key} {td ty : TE} (hy : Ev ty σ H (kV k)) (hd : Ev td σ H (.ref d)) (h : H d = some (.dK kvs)) : Ev (tDNotIn ty td) σ H (.bl (!(valV kvs k).isSome)) := fun H1 e Q q =>
  hy H1 e _ fun H2 e2 => hd H2 (e.trans e2) _ fun H3 e3 => ⟨d, _, rfl, DGet.k (e3 _ _ (e2 _ _ (e _ _ h))), q H3 (e2.trans e3)⟩
end Fs

set_option Elab.async false
set_option linter.all false
set_option maxRecDepth 100000
set_option maxHeartbeats 4000000
/-! READINGS -/
namespace Fs
open PySem PySem.Spec PyProof.Rows L2 Evl
open LamX NdefX
def bestV (o : Option Row) (v : V) (H : Hp) : Prop := match o with | none => v = .non | some b => RRow v b H
theorem bestV.ex {o : Option Row} {v : V} {H H' : Hp} (h : bestV o v H) (e : Ex H H') : bestV o v H' := by
  cases o with
  | none => exact h
  | some b => exact rrow_lst.l _ _ _ _ e h
theorem q_daug {D : Ends} {tz : TS} {σ : L2.St} {H : Hp} {td ty : TE} {a b : Int} {d : Addr} {k : Key} {kvs : List (Key × V)} (hd : Ev td σ H (.ref d)) (hy : Ev ty σ H (kV k)) (h : H d = some (.dK kvs)) (hv : valV kvs k = some (.int a)) (hl : kvs.length < 100000)
    (c : ∀ H1, Ex H H1 → tz D σ (upd H1 d (.dK (putK kvs k (.int (a - b)))))) : tSeq (sDAug td ty (tC (.int b)) rSub) tz D σ H :=
  hd H (Ex.refl H) _ fun H2 e2 => hy H2 e2 _ fun H3 e3 => ⟨d, .int a, rfl, (by have := DGet.k (k := k) ((e2.trans e3) _ _ h); rw [hv] at this; exact this), a, b, rfl, rfl, _, DPut.k (k := k) ((e2.trans e3) _ _ h) (sz_lt hl), c H3 (e2.trans e3)⟩
theorem rd_Run_work_on (p : Pm) (ok : PmOk p) : Keeps (t_Run_work_on p) ["self", "turn", "fails", "best", "rows", "row", "name"] (sp_Run_work_on p) := fun vs H Q E ⟨o, rs, w, fin, tr, f, t, ev, S, hf, hlen, htr, hq0, hq1⟩ => by
  subst ev
  have hw := (S.pc H (ExM.refl _ _)).1
  refine q_asg (v := .non) ev_c fun H1 e1 => ?_
  have S1 := S.ex e1
  refine q_asgR (ev_known ok S1 rfl) fun u H2 e2 ⟨a, xs, eu, ha, ar⟩ => ?_
  subst eu
  have S2 := S1.ex e2
  refine q_skip (et_B (ev_pmeth (v := .bl false) (ev_var rfl) S2.ins rfl (ea_cons (ev_var rfl) ea_nil) fun H3 e3 => ⟨_, t, rfl, rfl⟩)) fun H3 e3 => ?_
  have S3 := S2.ex e3
  have e03 := (e1.trans e2).trans e3
  refine ⟨.ref a, rfl, a, rfl, ⟨xs, st_of (e3 _ _ ha)⟩, ?_⟩
  refine for_tup (xs := xs) (D := { nx := tIfS (tTest (tOp rNotNo (tVar 3) (tC .non))) (tSeq (tAsg (tOp (rIxT p.K) (tVar 3) (tC (.int 0))) (gName 6))
      (tSeq (tDrop (tBM p.K "list" rAppend (tFld p.K (tVar 0) "trodden") (tCons (tTup (tCons (tVar 1) (tCons (tVar 6) tNil))) tNil)))
      (tSeq (sDAug (tFld p.K (tVar 0) "wanting") (tVar 6) (tC (.int 1)) rSub)
      (tIfS (tTest (tOp rEq (tDGet (tFld p.K (tVar 0) "wanting") (tVar 6)) (tC (.int 0)))) (tDrop (tMeth p.CR "end_try" (sp_Run_end_try p) [] E0 (tVar 0) (tCons (tVar 6) (tCons (tOp (rIxT p.K) (tVar 3) (tC (.int 3))) (tCons (tVar 1) (tCons (tVar 2) tNil)))))) tNext)))) tNext { nx := fun _ H' => Q .non H', rt := Q }, rt := Q })
    (fun i σ H' => ∃ ob v, σ[0]? = some (some (.ref o.x)) ∧ σ[1]? = some (some (.int t)) ∧ σ[2]? = some (some (.ref f)) ∧ σ[3]? = some (some v) ∧ σ.length = 7 ∧ Ex H3 H' ∧ Fm.Best (rs.take i) t fin ob ∧ bestV ob v H')
    ⟨none, .non, rfl, rfl, rfl, rfl, rfl, Ex.refl _, Fm.best_nil t fin, rfl⟩ (fun i σ H' _ ⟨_, _, _, _, _, _, _, e, _⟩ => st_of (e _ _ (e3 _ _ ha))) (fun i x σ H' hi ⟨ob, bv, s0, s1, s2, s3, sl, eH, hb, hv⟩ => ?_) (fun σ H' ⟨ob, bv, s0, s1, s2, s3, sl, eH, hb, hv⟩ => ?_)
  · obtain ⟨r, hr, rr⟩ := ar.get hi
    have rx : RRow x r H' := rrow_lst.l _ _ _ _ (e3.trans eH) rr
    obtain ⟨c, rfl, hc⟩ := id rx
    have S4 := S3.ex eH
    have tk : rs.take (i + 1) = rs.take i ++ [r] := by rw [List.take_add_one, hr]; rfl
    obtain ⟨kf, f1, f2⟩ := id S4.df
    have w0 : (σ.set 5 (some (V.ref c)))[0]? = some (some (.ref o.x)) := by simp [s0]
    have w1 : (σ.set 5 (some (V.ref c)))[1]? = some (some (.int t)) := by simp [s1]
    have w2 : (σ.set 5 (some (V.ref c)))[2]? = some (some (.ref f)) := by simp [s2]
    have w3 : (σ.set 5 (some (V.ref c)))[3]? = some (some bv) := by simp [s3]
    have w5 : (σ.set 5 (some (V.ref c)))[5]? = some (some (.ref c)) := by rw [List.getElem?_set_self (by omega)]
    have wl : (σ.set 5 (some (V.ref c))).length = 7 := by simp [sl]
    have ix : ∀ (i : Nat) (u : V), (rowV r)[i]? = some u → Ev (tOp (rIxT p.K) (tVar 5) (tC (.int (i : Int)))) (σ.set 5 (some (V.ref c))) H' u := fun i u h => ev_ixT (ev_var w5) hc h
    have hbd : ∃ b : Bool, EvT (tOr (tTest (tOp rIsNo (tVar 3) (tC .non))) (tTest (tOp rLtI (tOp (rIxT p.K) (tVar 5) (tC (.int 2))) (tOp (rIxT p.K) (tVar 3) (tC (.int 2)))))) (σ.set 5 (some (V.ref c))) H' b ∧ (b = true ↔ ∀ q, ob = some q → r.l < q.l) := by
      cases ob with
      | none =>
        have e : bv = .non := hv
        subst e
        exact ⟨_, et_or (et_test (ev_isN (ev_var w3) (b := true) rfl)) (fun h => by cases h) (b := true), by simp⟩
      | some q =>
        obtain ⟨d, rfl, hd⟩ := (show RRow bv q H' from hv)
        exact ⟨_, et_or (et_test (ev_isN (ev_var w3) (b := false) rfl)) fun _ => et_test (ev_op (ix 2 (.int r.l) rfl) (ev_ixT (i := 2) (ev_var w3) hd rfl) rv_I0), by simp⟩
    obtain ⟨b, hb1, hb2⟩ := hbd
    refine s_when (et_and (et_test (ev_op (ix 1 (.int r.f) rfl) (ev_var w1) rv_I0)) fun _ => et_and (et_B (ev_dnotin (k := Sum.inr r.n) (ix 0 (.str r.n) rfl) (ev_fld (ev_var w0) S4.ins ok.cR ok.nR6 rfl) f1)) fun _ => hb1) (fun hcond H5 e5 => ?_) fun hcond H5 e5 => ?_
    · rw [Bool.and_eq_true, Bool.and_eq_true, decide_eq_true_eq, fin_some f2, Bool.not_eq_true', decide_eq_false_iff_not] at hcond
      refine s_asg (ev_var w5) fun H6 e6 => ⟨some r, .ref c, by simp [w0], by simp [w1], by simp [w2], by rw [List.getElem?_set_self (by omega)], by simp [sl], eH.trans (e5.trans e6), ?_, rrow_lst.l _ _ _ _ (e5.trans e6) rx⟩
      rw [tk]
      exact Fm.best_yes hb hcond.1 hcond.2.1 (hb2.mp hcond.2.2)
    · refine ⟨ob, bv, w0, w1, w2, w3, wl, eH.trans e5, ?_, hv.ex e5⟩
      rw [tk]
      refine Fm.best_no hb fun h1 h2 => ?_
      rw [decide_eq_true h1, fin_some f2, decide_eq_false h2] at hcond
      have hbf : b = false := by simpa using hcond
      cases ob with
      | none => rw [hb2.mpr fun q h => by cases h] at hbf; cases hbf
      | some q =>
        refine ⟨q, rfl, ?_⟩
        by_cases hlt : r.l < q.l
        · rw [hb2.mpr fun q' h => by cases h; exact hlt] at hbf; cases hbf
        · omega
  · rw [ar.length, List.take_length] at hb
    have S4 := S3.ex eH
    have x4 : ExM o.M H H' := ExM.of (e03.trans eH)
    cases ob with
    | none =>
      have e : bv = .non := hv
      subst e
      exact s_when (b := false) (et_test (ev_notN (ev_var s3) rfl)) (fun h => by cases h) fun _ H5 e5 => hq0 _ (x4.trans (ExM.of e5)) hb (S4.ex e5)
    | some b =>
      obtain ⟨c, rfl, hc⟩ := (show RRow bv b H' from hv)
      refine s_when (b := true) (et_test (ev_notN (ev_var s3) rfl)) (fun _ H5 e5 => ?_) fun h => by cases h
      refine q_asg (ev_ixT (i := 0) (ev_var s3) (e5 _ _ hc) rfl) fun H6 e6 => ?_
      have w0 : (σ.set 6 (some (V.str b.n)))[0]? = some (some (.ref o.x)) := by simp [s0]
      have w1 : (σ.set 6 (some (V.str b.n)))[1]? = some (some (.int t)) := by simp [s1]
      have w2 : (σ.set 6 (some (V.str b.n)))[2]? = some (some (.ref f)) := by simp [s2]
      have w3 : (σ.set 6 (some (V.str b.n)))[3]? = some (some (.ref c)) := by simp [s3]
      have w6 : (σ.set 6 (some (V.str b.n)))[6]? = some (some (.str b.n)) := by rw [List.getElem?_set_self (by omega)]
      have S6 := S4.ex (e5.trans e6)
      obtain ⟨ys, y1, y2⟩ := id S6.lt
      have mlt : o.lt ∈ o.M := by simp [RunO.M]
      have mdw : o.dw ∈ o.M := by simp [RunO.M]
      have ylen : ys.length = tr.length := y2.length
      refine q_appR (R := fun u => RTurn u (t, b.n)) y1 (ev_fld (ev_var w0) S6.ins ok.cR ok.nR4 rfl) (evr_tupA (ea_cons (ev_var w1) (ea_cons (ev_var w6) ea_nil)) (by simp)) (by omega) fun v7 H7 e7 r7 => ?_
      have S7' := S6.ex e7
      have y2' := y2.mono rturn_lst.l e7
      have S7 := S7'.tro (tr' := tr ++ [(t, b.n)]) (xs := ys ++ [v7]) (are_upd (S7'.nt mlt) (Are.snoc r7 y2'))
      have x7 : ExM o.M H (upd H7 o.lt (.lst (ys ++ [v7]))) := ((x4.trans (ExM.of (e5.trans e6))).trans (ExM.of e7)).upd mlt
      obtain ⟨kw, k1, k2, k3⟩ := id S7.kw
      have hval := k3 b hb.1
      have hklen : kw.length = rs.length := by have := congrArg List.length k2; rw [List.length_map, List.length_map] at this; exact this
      have hrl := hw.len
      refine q_daug (k := Sum.inr b.n) (ev_fld (ev_var w0) S7.ins ok.cR ok.nR2 rfl) (ev_var w6) k1 hval (by omega) fun H8 e8 => ?_
      have S8 := (S7.ex e8).wn (w' := Fm.setW w b.n (w b.n - 1)) (kvs := putK kw (Sum.inr b.n) (.int (w b.n - 1))) (by rw [putK_keys hval, k2]) (fun q hq' => by
        rw [valV_put]
        unfold Fm.setW
        by_cases h : q.n = b.n
        · rw [if_pos (by rw [h]), if_pos h]
        · rw [if_neg (fun z => h (Sum.inr.inj z)), if_neg h]; exact k3 q hq')
      have x8 : ExM o.M H (upd H8 o.dw (.dK (putK kw (Sum.inr b.n) (.int (w b.n - 1))))) := (x7.trans (ExM.of e8)).upd mdw
      have tst : EvT (tTest (tOp rEq (tDGet (tFld p.K (tVar 0) "wanting") (tVar 6)) (tC (.int 0)))) (σ.set 6 (some (V.str b.n))) (upd H8 o.dw (.dK (putK kw (Sum.inr b.n) (.int (w b.n - 1))))) (decide (V.int (w b.n - 1) = V.int 0)) :=
        et_test (ev_op (ev_dget (k := Sum.inr b.n) (v := .int (w b.n - 1)) (ev_fld (ev_var w0) S8.ins ok.cR ok.nR2 rfl) (ev_var w6) upd_same (by rw [valV_put, if_pos rfl])) ev_c (rv_eq rfl))
      refine s_when tst (fun h9 H9 e9 => ?_) fun h9 H9 e9 => hq1 _ b (x8.trans (ExM.of e9)) hb ?_
      · have h0 : w b.n - 1 = 0 := V.int.inj (of_decide_eq_true h9)
        have S9 := S8.ex e9
        refine ⟨.ref o.x, w0, o.x, o.dx, o.fs, rfl, S9.ins, rfl, ?_⟩
        have hc9 : H9 c = some (.tup (rowV b)) := by
          have h6 := (e5.trans e6) _ _ hc
          have h7 := e7 _ _ h6
          have n1 : c ≠ o.lt := fun z => S7'.tM h7 (by rw [z]; exact mlt)
          have h8 := e8 _ _ ((upd_ne n1).trans h7)
          have n2 : c ≠ o.dw := fun z => (S7.ex e8).tM h8 (by rw [z]; exact mdw)
          exact e9 _ _ ((upd_ne n2).trans h8)
        refine (ea_cons (ev_var w6) (ea_cons (ev_ixT (K := p.K) (i := 3) (v := .int b.c) (ev_var w3) hc9 rfl) (ea_cons (ev_var w1) (ea_cons (ev_var w2) ea_nil)))) H9 (Ex.refl H9) _ fun H10 e10 => ?_
        refine ⟨o, rs, _, fin, _, f, b.n, b.c, t, rfl, S9.ex e10, hf.mono ((x8.trans (ExM.of e9)).trans (ExM.of e10)), List.mem_map.mpr ⟨b, hb.1, rfl⟩, hb.2.2.1, by omega, fun H11 x11 S11 => hq1 _ b (((x8.trans (ExM.of e9)).trans (ExM.of e10)).trans x11) hb ?_⟩
        rw [if_pos h0]; exact S11
      · have h0 : ¬ w b.n - 1 = 0 := fun z => by rw [z] at h9; exact absurd rfl (of_decide_eq_false h9)
        rw [if_neg h0]; exact S8.ex e9
end Fs

set_option Elab.async false
set_option linter.all false
set_option maxRecDepth 100000
set_option maxHeartbeats 4000000
/-! READINGS -/
namespace Fs
open PySem PySem.Spec PyProof.Rows L2 Evl
open LamX NdefX
/-- all stays but at x -/
def Bx (x : Addr) (H H' : Hp) : Prop := ∀ b o, H b = some o → b ≠ x → H' b = some o
theorem Clo.butx {H H' : Hp} {f x C dx : Addr} {F : NF} {b : Expr} {fr : List Str} {ws : List V} (c : Clo H f F b fr ws) (hx : H x = some (.ins C dx [])) (h : Bx x H H') : Clo H' f F b fr ws := by
  have ext : ∀ {a : Addr} {φ : Heap → Prop}, H a = some (.ext φ) → (fun b => if b = x then none else H b : Hp) a = some (.ext φ) := fun {a φ} e => by
    show (if a = x then none else H a) = _
    rw [if_neg fun z => by rw [z, hx] at e; cases e]; exact e
  have hco : (fun b => if b = x then none else H b : Hp) F.c = some (CodeO F.c F.qual) := ext c.co
  have c' : Clo (fun b => if b = x then none else H b : Hp) f F b fr ws := ⟨ext c.fn, hco, c.len, fun y a hy => by
    obtain ⟨o, e, v⟩ := c.all y a hy
    exact ⟨o, ext e, v⟩, c.inj, fun i y hy => by
    obtain ⟨a, o, v, h1, h2, h3⟩ := c.has i y hy
    exact ⟨a, o, v, h1, ext h2, h3⟩⟩
  refine c'.ext (ExtN.of fun b o e => ?_)
  have e' : (if b = x then none else H b) = some o := e
  by_cases hb : b = x
  · rw [if_pos hb] at e'; cases e'
  · rw [if_neg hb] at e'; exact h b o e' hb
theorem RPc.butx {p : Pm} {v : V} {rs : List Row} {H H' : Hp} {x C dx : Addr} (c : RPc p v rs H) (hx : H x = some (.ins C dx [])) (h : Bx x H H') : RPc p v rs H' := by
  obtain ⟨hw, a, dy, d, xs, ev, g1, g2, g3⟩ := c
  exact ⟨hw, a, dy, d, xs, ev, h _ _ g1 (fun z => by rw [z, hx] at g1; have := (HO.ins.inj (Option.some.inj g1)).2.2; cases this), h _ _ g2 (fun z => by rw [z, hx] at g2; cases g2), Paired.mapP g3 fun v r ⟨b, e, hb⟩ => ⟨b, e, h _ _ hb fun z => by rw [z, hx] at hb; cases hb⟩⟩
def wOf (rs : List Row) (z : Str) : Int := ((rs.find? fun r => decide (r.n = z)).map (·.r)).getD 0
theorem wOf_eq {rs : List Row} (nd : (rs.map (·.n)).Nodup) {r : Row} (hr : r ∈ rs) : wOf rs r.n = r.r := by
  unfold wOf
  cases h : rs.find? fun q => decide (q.n = r.n) with
  | none => exact absurd (decide_eq_true rfl) (List.find?_eq_none.mp h r hr)
  | some q =>
    have h1 := List.mem_of_find?_eq_some h
    have h2 : q.n = r.n := by have := List.find?_some h; exact of_decide_eq_true this
    rw [names_inj nd h1 hr h2]; rfl
theorem sum_bound {rs : List Row} {f : Row → Int} (h : ∀ r ∈ rs, f r ≤ 12) : (rs.map f).sum ≤ 12 * (rs.length : Int) := by
  induction rs with
  | nil => simp
  | cons a l ih =>
    have h1 := h a List.mem_cons_self
    have h2 := ih fun r hr => h r (List.mem_cons_of_mem _ hr)
    simp only [List.map_cons, List.sum_cons, List.length_cons]; omega
/-- the loop of Run.__init__ -/
theorem run_loop (p : Pm) (ok : PmOk p) {o : RunO} {rs : List Row} {f : Addr} {H : Hp} {Q : VK} {σ : L2.St} {w : Str → Int} (hw : Rws rs) (hk : Fm.Kept rs 0) (S : RunS p o rs w [] [] 0 H) (hf : FailsOk p o.M f H) (h0 : ∀ r ∈ rs, w r.n = r.r)
    (s0 : σ[0]? = some (some (.ref o.x))) (s2 : σ[2]? = some (some (.ref f))) (s8 : σ[8]? = some (some (.int 0))) (sl : σ.length = 9)
    (hq : ∀ H' w' fin tr, ExM o.M H H' → RunS p o rs w' fin tr fin.length H' → OrdOk rs tr → Q .non H') :
    tWhile (tTest (tOp rLtI (tCB rLenD (tCons (tFld p.K (tVar 0) "finish") tNil)) (tCB rLenD (tCons (tFld p.K (tVar 0) "wanting") tNil)))) (tSeq (tDrop (tMeth p.CR "end_empty" (sp_Run_end_empty p) [] E0 (tVar 0) (tCons (tVar 8) (tCons (tVar 2) tNil))))
      (tSeq (tDrop (tMeth p.CR "work_on" (sp_Run_work_on p) [] E0 (tVar 0) (tCons (tVar 8) (tCons (tVar 2) tNil))))
      (tAug 8 (tC (.int 1)) (ipI fun i j => i + j)))) { nx := fun _ H' => Q .non H', rt := Q } σ H := by
  refine s_while (fun m σ H' => ∃ t w fin tr, σ[0]? = some (some (.ref o.x)) ∧ σ[2]? = some (some (.ref f)) ∧ σ[8]? = some (some (.int t)) ∧ σ.length = 9 ∧ ExM o.M H H' ∧ RunS p o rs w fin tr fin.length H' ∧ Fm.J rs t w fin tr ∧ m = (201 - t).toNat) 201
    ⟨0, w, [], [], s0, s2, s8, sl, ExM.refl _ _, S, Fm.J.start hk hw.ok h0, rfl⟩ fun m σ' H' ⟨t, w, fin, tr, s0, s2, s8, sl, x1, S1, j, em⟩ => ?_
  obtain ⟨kw, k1, k2, k3⟩ := id S1.kw
  obtain ⟨kf, g1, g2⟩ := id S1.df
  have hkw : kw.length = rs.length := by have := congrArg List.length k2; rw [List.length_map, List.length_map] at this; exact this
  have hkf : kf.length = fin.length := by have := congrArg List.length g2; rw [List.length_map, List.length_map] at this; exact this
  have ev_lenD : ∀ {te : TE} {d : Addr} {kvs : List (Key × V)}, Ev te σ' H' (.ref d) → H' d = some (.dK kvs) → Ev (tCB rLenD (tCons te tNil)) σ' H' (.int (kvs.length : Int)) := fun {te d kvs} h hd H1 e Q q => h H1 e _ fun H2 e2 => ⟨d, kvs, rfl, e2 _ _ (e _ _ hd), q H2 e2⟩
  have hrl := hw.len
  have finl : fin.length ≤ 30 := by have := Fm.nodup_le j.nd j.sub; rw [List.length_map] at this; omega
  have trl : tr.length ≤ 1000 := by
    have h1 := j.tot
    have h2 := sum_bound (rs := rs) (f := fun r => r.r - w r.n) fun r hr => by have := (hw.ok r hr).rc; have := (hw.ok r hr).c2; have := (j.w0 r hr).1; omega
    have h3 : (tr.length : Int) ≤ 12 * (rs.length : Int) := by rw [h1]; exact h2
    omega
  refine ⟨decide ((fin.length : Int) < (rs.length : Int)), et_is (et_test (ev_op (ev_lenD (ev_fld (ev_var s0) S1.ins ok.cR ok.nR6 rfl) g1) (ev_lenD (ev_fld (ev_var s0) S1.ins ok.cR ok.nR2 rfl) k1) rv_I0)) (by rw [hkw, hkf]), fun hb H1 e1 => ?_, fun hb H1 e1 => ?_⟩
  · have hlt : fin.length < rs.length := by have := of_decide_eq_true hb; omega
    have t200 := j.stop hw.ok hw.nd hlt
    obtain ⟨d1, d2, d3, d4⟩ := j.empty hw.nd
    refine ⟨_, fun σ2 H2 h => h, ?_⟩
    have S1' := S1.ex e1
    refine ⟨.ref o.x, s0, o.x, o.dx, o.fs, rfl, S1'.ins, rfl, ?_⟩
    refine (ea_cons (ev_var s8) (ea_cons (ev_var s2) ea_nil)) H1 (Ex.refl H1) _ fun H2 e2 => ?_
    have x2 := x1.trans (ExM.of (e1.trans e2))
    refine ⟨o, rs, w, fin, tr, f, t, rfl, S1'.ex e2, hf.mono x2, d1, by omega, fun H3 x3 S3 => ?_⟩
    refine ⟨.ref o.x, s0, o.x, o.dx, o.fs, rfl, S3.ins, rfl, ?_⟩
    refine (ea_cons (ev_var s8) (ea_cons (ev_var s2) ea_nil)) H3 (Ex.refl H3) _ fun H4 e4 => ?_
    have x4 := (x2.trans x3).trans (ExM.of e4)
    have el := empt_len rs t
    refine ⟨o, rs, w, fin ++ Fm.empt rs t, tr, f, t, rfl, S3.ex e4, hf.mono x4, by rw [List.length_append]; omega, trl, fun H5 x5 hb5 S5 => ?_, fun H5 b x5 hb5 S5 => ?_⟩
    · refine s_aug (σ := σ') (i := 8) (a := t) (b := 1) s8 ev_c fun H6 e6 => ⟨(201 - (t + 1)).toNat, by have := j.t0; omega, t + 1, w, _, tr, by simp [s0], by simp [s2], by rw [List.getElem?_set_self (by omega)], by simp [sl], (x4.trans x5).trans (ExM.of e6), S5.ex e6, j.idle hk hw.nd hb5, rfl⟩
    · refine s_aug (σ := σ') (i := 8) (a := t) (b := 1) s8 ev_c fun H6 e6 => ⟨(201 - (t + 1)).toNat, by have := j.t0; omega, t + 1, _, _, _, by simp [s0], by simp [s2], by rw [List.getElem?_set_self (by omega)], by simp [sl], (x4.trans x5).trans (ExM.of e6), S5.ex e6, (j.work hk hw.nd hb5).2, rfl⟩
  · have hge : rs.length ≤ fin.length := by have := of_decide_eq_false hb; omega
    obtain ⟨g3, g4⟩ := j.done hge
    refine hq H1 w fin tr (x1.trans (ExM.of e1)) (S1.ex e1) ⟨j.up, fun r hr => ?_, j.win, g4, trl, by omega⟩
    rw [List.length_map]; exact g3 r hr
section
variable {K : PySem.W.Frag} {D : Ends} {tz : TS} {σ : L2.St} {H : Hp} {f : Str} {x C dx : Addr} {fs : List (Str × V)} {i : Nat} {v : V}
theorem q_fldV (s0 : σ[0]? = some (some (.ref x))) (sv : σ[i]? = some (some v)) (hx : H x = some (.ins C dx fs)) (c : Cls K C) (n : NoAttr K C f) (hl : fs.length < 1000) (k : ∀ H', H' x = some (.ins C dx (putF f v fs)) → (∀ b o, H b = some o → b ≠ x → H' b = some o) → tz D σ H') : tSeq (sFld K (tVar 0) (tVar i) f) tz D σ H :=
  ⟨v, sv, .ref x, s0, x, C, dx, fs, rfl, hx, c, n, hl, k _ upd_same fun b o h n => (upd_ne n).trans h⟩
theorem q_fldL (s0 : σ[0]? = some (some (.ref x))) (hx : H x = some (.ins C dx fs)) (c : Cls K C) (n : NoAttr K C f) (hl : fs.length < 1000) (k : ∀ q H', H q = none → x ≠ q → H' x = some (.ins C dx (putF f (.ref q) fs)) → (∀ b o, H b = some o → b ≠ x → H' b = some o) → H' q = some (.lst []) → tz D σ H') :
    tSeq (sFld K (tVar 0) (tLst tNil) f) tz D σ H := ⟨Nat.zero_le _, fun q hq => by
  have xq : x ≠ q := ne_of_none hx hq
  exact ⟨.ref x, s0, x, C, dx, fs, rfl, (upd_ne xq).trans hx, c, n, hl, k q _ hq xq upd_same (fun b o h n => (upd_ne n).trans ((upd_ne (ne_of_none h hq)).trans h)) ((upd_ne xq.symm).trans upd_same)⟩⟩
theorem q_fldD (s0 : σ[0]? = some (some (.ref x))) (hx : H x = some (.ins C dx fs)) (c : Cls K C) (n : NoAttr K C f) (hl : fs.length < 1000) (k : ∀ q H', H q = none → x ≠ q → H' x = some (.ins C dx (putF f (.ref q) fs)) → (∀ b o, H b = some o → b ≠ x → H' b = some o) → H' q = some (.dK []) → tz D σ H') :
    tSeq (sFld K (tVar 0) tDNewK f) tz D σ H := fun q hq => by
  have xq : x ≠ q := ne_of_none hx hq
  exact ⟨.ref x, s0, x, C, dx, fs, rfl, (upd_ne xq).trans hx, c, n, hl, k q _ hq xq upd_same (fun b o h n => (upd_ne n).trans ((upd_ne (ne_of_none h hq)).trans h)) ((upd_ne xq.symm).trans upd_same)⟩
end
theorem rd_Run_init (p : Pm) (ok : PmOk p) : Keeps (t_Run_init p) ["self", "pieces", "fails", "name", "first", "last", "length", "left", "turn"] (sp_Run_init p) := fun vs H Q E ⟨x, dx, as, R, ev, hx, ⟨v, rs, f, F, d, ea, hv, hk, hF, C, hd, eR⟩, hq⟩ => by
  subst ea; subst ev; subst eR
  have hw := hv.1
  refine q_fldV (x := x) (v := v) rfl rfl hx ok.cR ok.nR1 (by show (0 : Nat) < 1000; decide) fun H1 (x1 : H1 x = some (.ins p.CR dx [("known", v)])) b1 => ?_
  refine q_fldD (x := x) rfl x1 ok.cR ok.nR2 (by show (1 : Nat) < 1000; decide) fun dw H2 hdw xdw (x2 : H2 x = some (.ins p.CR dx [("known", v), ("wanting", .ref dw)])) b12 dw2 => ?_
  refine q_fldD (x := x) rfl x2 ok.cR ok.nR3 (by show (2 : Nat) < 1000; decide) fun dt H3 hdt xdt (x3 : H3 x = some (.ins p.CR dx [("known", v), ("wanting", .ref dw), ("tried", .ref dt)])) b23 dt3 => ?_
  have b2 : Bx x H H2 := fun b o h n => b12 _ _ (b1 _ _ h n) n
  have b3 : Bx x H H3 := fun b o h n => b23 _ _ (b2 _ _ h n) n
  have dw3 := b23 _ _ dw2 xdw.symm
  have dwdt : dw ≠ dt := ne_of_none dw2 hdt
  have hdwH : H dw = none := by
    cases h : H dw with
    | none => rfl
    | some o => rw [b1 _ _ h xdw.symm] at hdw; cases hdw
  have hdtH : H dt = none := by
    cases h : H dt with
    | none => rfl
    | some o => rw [b2 _ _ h xdt.symm] at hdt; cases hdt
  have hv3 := hv.butx hx b3
  refine (evr_told (te := tVar 1) (ev_var rfl) hv3) H3 (Ex.refl H3) _ fun u H4 e4 ⟨a, xs, eu, ha, ar⟩ => ⟨a, eu, ⟨xs, st_of ha⟩, ?_⟩
  have b4 : Bx x H H4 := fun b o h n => e4 _ _ (b3 b o h n)
  have x4 := e4 _ _ x3
  have dw4 := e4 _ _ dw3
  have dt4 := e4 _ _ dt3
  have tN : ∀ {q : Addr} {ys : List V}, H4 q = some (.tup ys) → q ∉ [dw, dt] := fun {q ys} h hq' => by
    simp only [List.mem_cons, List.not_mem_nil, or_false] at hq'
    rcases hq' with rfl | rfl
    · rw [dw4] at h; cases h
    · rw [dt4] at h; cases h
  refine for_tup (xs := xs) (fun i σ H' => σ[0]? = some (some (.ref x)) ∧ σ[2]? = some (some (.ref f)) ∧ σ.length = 9 ∧ ExM [dw, dt] H4 H' ∧ ∃ kw kt, H' dw = some (.dK kw) ∧ H' dt = some (.dK kt) ∧ kw.map (·.1) = (rs.take i).map (fun r => (Sum.inr r.n : Key)) ∧ kt.map (·.1) = (rs.take i).map (fun r => (Sum.inr r.n : Key)) ∧
      (∀ r ∈ rs.take i, valV kw (Sum.inr r.n) = some (.int r.r)) ∧ ∀ r ∈ rs.take i, valV kt (Sum.inr r.n) = some (.int 0))
    ⟨rfl, rfl, rfl, ExM.refl _ _, [], [], dw4, dt4, rfl, rfl, fun r hr => by simp at hr, fun r hr => by simp at hr⟩ (fun i σ H' _ ⟨_, _, _, e, _⟩ => st_of (e _ _ ha (tN ha))) (fun i y σ H' hi ⟨s0, s2, sl, eM, kw, kt, k1, k2, k3, k4, k5, k6⟩ => ?_) (fun σ H' ⟨s0, s2, sl, eM, kw, kt, k1, k2, k3, k4, k5, k6⟩ => ?_)
  · obtain ⟨r, hr, b, rfl, hb⟩ := ar.get hi
    have hrm := List.mem_of_getElem? hr
    have hb' := eM _ _ hb (tN hb)
    refine ⟨b, _, rfl, st_of hb', rfl, .str r.n, _, rfl, .int r.f, _, rfl, .int r.l, _, rfl, .int r.c, _, rfl, .int r.r, [], rfl, rfl, ?_⟩
    generalize hσ : (((((σ.set 3 (some (V.str r.n))).set 4 (some (V.int r.f))).set 5 (some (V.int r.l))).set 6 (some (V.int r.c))).set 7 (some (V.int r.r))) = σ2
    have w0 : σ2[0]? = some (some (.ref x)) := by rw [← hσ]; simp [s0]
    have w2 : σ2[2]? = some (some (.ref f)) := by rw [← hσ]; simp [s2]
    have w3 : σ2[3]? = some (some (.str r.n)) := by rw [← hσ]; simp [sl]
    have w7 : σ2[7]? = some (some (.int r.r)) := by rw [← hσ]; simp [sl]
    have wl : σ2.length = 9 := by rw [← hσ]; simp [sl]
    have tk : rs.take (i + 1) = rs.take i ++ [r] := by rw [List.take_add_one, hr]; rfl
    have hni : r.n ∉ (rs.take i).map (·.n) := fun hm => by
      have nd := hw.nd
      have e5 : rs = rs.take i ++ rs.drop i := (List.take_append_drop i rs).symm
      rw [e5, List.map_append, List.nodup_append] at nd
      have hdr : r ∈ rs.drop i := List.mem_of_getElem? (i := 0) (by rw [List.getElem?_drop]; exact hr)
      exact nd.2.2 _ hm _ (List.mem_map.mpr ⟨r, hdr, rfl⟩) rfl
    have keyN : ∀ {kvs : List (Key × V)}, kvs.map (·.1) = (rs.take i).map (fun r => (Sum.inr r.n : Key)) → valV kvs (Sum.inr r.n) = none := fun {kvs} h => fin_none (fin := (rs.take i).map (·.n)) (by rw [h, List.map_map]; rfl) hni
    have lenK : ∀ {kvs : List (Key × V)}, kvs.map (·.1) = (rs.take i).map (fun r => (Sum.inr r.n : Key)) → kvs.length ≤ 30 := fun {kvs} h => by
      have := congrArg List.length h
      rw [List.length_map, List.length_map, List.length_take] at this
      have := hw.len; omega
    have hx' : H' x = some (.ins p.CR dx [("known", v), ("wanting", .ref dw), ("tried", .ref dt)]) := eM _ _ x4 (by simp [xdw, xdt])
    refine q_dput (v := .int r.r) (k := Sum.inr r.n) (ev_var w7) (ev_fld (ev_var w0) hx' ok.cR ok.nR2 rfl) (ev_var w3) k1 (by have := lenK k3; omega) fun H5 e5 => ?_
    have hx5 : (upd H5 dw (.dK (putK kw (Sum.inr r.n) (.int r.r))) : Hp) x = some (.ins p.CR dx [("known", v), ("wanting", .ref dw), ("tried", .ref dt)]) := (upd_ne xdw).trans (e5 _ _ hx')
    refine s_dput (v := .int 0) (k := Sum.inr r.n) (kvs := kt) ev_c (ev_fld (ev_var w0) hx5 ok.cR ok.nR3 rfl) (ev_var w3) ((upd_ne dwdt.symm).trans (e5 _ _ k2)) (by have := lenK k4; omega) fun H6 e6 => ?_
    refine ⟨w0, w2, wl, ?_, putK kw (Sum.inr r.n) (.int r.r), putK kt (Sum.inr r.n) (.int 0), (upd_ne dwdt).trans (e6 _ _ upd_same), upd_same, ?_, ?_, fun q hq' => ?_, fun q hq' => ?_⟩
    · exact ((((eM.trans (ExM.of e5)).upd (by simp)).trans (ExM.of e6)).upd (by simp))
    · rw [putK_new _ (keyN k3), tk, List.map_append, List.map_append, k3]; rfl
    · rw [putK_new _ (keyN k4), tk, List.map_append, List.map_append, k4]; rfl
    · rw [valV_put]
      rw [tk, List.mem_append] at hq'
      by_cases h : q.n = r.n
      · have hqm : q ∈ rs := by
          rcases hq' with hq' | hq'
          · exact take_sub hq'
          · rw [List.mem_singleton.mp hq']; exact hrm
        rw [if_pos (by rw [h]), names_inj hw.nd hqm hrm h]
      · rw [if_neg (fun z => h (Sum.inr.inj z))]
        rcases hq' with hq' | hq'
        · exact k5 q hq'
        · exact absurd (by rw [List.mem_singleton.mp hq']) h
    · rw [valV_put]
      rw [tk, List.mem_append] at hq'
      by_cases h : q.n = r.n
      · rw [if_pos (by rw [h])]
      · rw [if_neg (fun z => h (Sum.inr.inj z))]
        rcases hq' with hq' | hq'
        · exact k6 q hq'
        · exact absurd (by rw [List.mem_singleton.mp hq']) h
  · rw [ar.length, List.take_length] at k3 k4 k5 k6
    have hxA : H' x = some (.ins p.CR dx [("known", v), ("wanting", .ref dw), ("tried", .ref dt)]) := eM _ _ x4 (by simp [xdw, xdt])
    have bA : Bx x H H' := fun b o h n => eM _ _ (b4 b o h n) (by
      simp only [List.mem_cons, List.not_mem_nil, or_false, not_or]
      exact ⟨ne_of_none h hdwH, ne_of_none h hdtH⟩)
    refine q_fldL (x := x) s0 hxA ok.cR ok.nR4 (by show (3 : Nat) < 1000; decide) fun lt HB hlt xlt (xB : HB x = some (.ins p.CR dx [("known", v), ("wanting", .ref dw), ("tried", .ref dt), ("trodden", .ref lt)])) eB ltB => ?_
    refine q_fldL (x := x) s0 xB ok.cR ok.nR5 (by show (4 : Nat) < 1000; decide) fun ls HC hls xls (xC : HC x = some (.ins p.CR dx [("known", v), ("wanting", .ref dw), ("tried", .ref dt), ("trodden", .ref lt), ("tries", .ref ls)])) eC lsC => ?_
    refine q_fldD (x := x) s0 xC ok.cR ok.nR6 (by show (5 : Nat) < 1000; decide) fun df HD hdf xdf (xD : HD x = some (.ins p.CR dx [("known", v), ("wanting", .ref dw), ("tried", .ref dt), ("trodden", .ref lt), ("tries", .ref ls), ("finish", .ref df)])) eD dfD => ?_
    refine q_fldD (x := x) s0 xD ok.cR ok.nR7 (by show (6 : Nat) < 1000; decide) fun dl HE hdl xdl (xE : HE x = some (.ins p.CR dx [("known", v), ("wanting", .ref dw), ("tried", .ref dt), ("trodden", .ref lt), ("tries", .ref ls), ("finish", .ref df), ("fallen", .ref dl)])) eE dlE => ?_
    refine q_asg (v := .int 0) ev_c fun HF eF => ?_
    have hltH : H lt = none := by
      cases h : H lt with
      | none => rfl
      | some o => rw [bA _ _ h xlt.symm] at hlt; cases hlt
    have ltls : lt ≠ ls := ne_of_none ltB hls
    have tE : ∀ b o, H' b = some o → b ≠ x → HF b = some o := fun b o h n => eF _ _ (eE b o (eD b o (eC b o (eB b o h n) n) n) n)
    have bF : Bx x H HF := fun b o h n => tE b o (bA b o h n) n
    have dwF := tE _ _ k1 xdw.symm
    have dtF := tE _ _ k2 xdt.symm
    have ltF : HF lt = some (.lst []) := eF _ _ (eE _ _ (eD _ _ (eC _ _ ltB xlt.symm) xlt.symm) xlt.symm)
    have lsF : HF ls = some (.lst []) := eF _ _ (eE _ _ (eD _ _ lsC xls.symm) xls.symm)
    have dfF : HF df = some (.dK []) := eF _ _ (eE _ _ dfD xdf.symm)
    have dwlt : dw ≠ lt := ne_of_none k1 hlt
    have dtlt : dt ≠ lt := ne_of_none k2 hlt
    have dwls : dw ≠ ls := ne_of_none (eB _ _ k1 xdw.symm) hls
    have dtls : dt ≠ ls := ne_of_none (eB _ _ k2 xdt.symm) hls
    have dwdf : dw ≠ df := ne_of_none (eC _ _ (eB _ _ k1 xdw.symm) xdw.symm) hdf
    have dtdf : dt ≠ df := ne_of_none (eC _ _ (eB _ _ k2 xdt.symm) xdt.symm) hdf
    have ltdf : lt ≠ df := ne_of_none (eC _ _ ltB xlt.symm) hdf
    have lsdf : ls ≠ df := ne_of_none lsC hdf
    have nM : ∀ b o, H b = some o → b ∉ [dw, dt, lt, ls, df] := fun b o h hb => by
      have gone : ∀ {q : Addr} {o' : HO}, q ≠ x → H q = some o' → H' q = some o' := fun n h => bA _ _ h n
      simp only [List.mem_cons, List.not_mem_nil, or_false] at hb
      rcases hb with rfl | rfl | rfl | rfl | rfl
      · rw [hdwH] at h; cases h
      · rw [hdtH] at h; cases h
      · rw [hltH] at h; cases h
      · have := eB _ _ (bA _ _ h xls.symm) xls.symm
        rw [this] at hls; cases hls
      · have := eC _ _ (eB _ _ (bA _ _ h xdf.symm) xdf.symm) xdf.symm
        rw [this] at hdf; cases hdf
    have S : RunS p ⟨x, dx, v, dw, dt, lt, ls, df, dl⟩ rs (wOf rs) [] [] 0 HF := by
      refine ⟨eF _ _ xE, fun H2 h2 => hv.butx hx fun b o h n => h2 _ _ (bF b o h n) (nM b o h), ?_, ⟨kw, dwF, k3, fun r hr => by rw [wOf_eq hw.nd hr]; exact k5 r hr⟩, ⟨kt, dtF, k4, fun r hr => ⟨0, Int.le_refl _, k6 r hr⟩⟩, ⟨[], ltF, .nil⟩, ⟨[], lsF, Nat.le_refl _⟩, ⟨[], dfF, rfl⟩⟩
      show [dw, dt, lt, ls, df].Nodup
      simp [dwdt, dwlt, dwls, dwdf, dtlt, dtls, dtdf, ltls, ltdf, lsdf]
    have hf : FailsOk p [dw, dt, lt, ls, df] f HF := ⟨F, d, hF, fun H2 h2 => ⟨C.butx hx fun b o h n => h2 _ _ (bF b o h n) (nM b o h), h2 _ _ (bF _ _ hd fun z => by rw [z, hx] at hd; cases hd) (nM _ _ hd)⟩⟩
    refine run_loop p ok hw hk S hf (fun r hr => wOf_eq hw.nd hr) (by simp [s0]) (by simp [s2]) (by rw [List.getElem?_set_self (by omega)]) (by simp [sl]) fun H2 w' fin tr x2' S2 O => hq H2 (fun b o h n => x2' _ _ (bF b o h n) (nM b o h)) ⟨tr, O, ?_⟩
    obtain ⟨ys, y1, y2⟩ := S2.lt
    exact ⟨x, dx, _, lt, ys, rfl, S2.ins, rfl, rfl, y1, y2⟩
end Fs

set_option Elab.async false
set_option linter.all false
set_option maxRecDepth 100000
set_option maxHeartbeats 4000000
/-! READINGS -/
namespace Fs
open PySem PySem.Spec PyProof.Rows L2 Evl
open LamX NdefX
theorem rd_is_counts (p : Pm) : Keeps (t_is_counts p) ["pieces", "thing", "name", "many"] (sp_is_counts p) := fun vs H Q E ⟨R, ⟨v, d, ev, hd, eR⟩, hq⟩ => by
  subst ev; subst eR
  refine q_must (et_B (isi_dct (ev_var rfl) hd)) fun H1 e1 => ?_
  refine ⟨d, _, e1 _ _ hd, trivial, fun od => ?_⟩
  refine ⟨.ref d, rfl, d, od, [], rfl, upd_same, fun i m σ H' => i = 0 ∧ σ = start ["pieces", "thing", "name", "many"] [v, .ref d] ∧ H' = upd H1 d (.frz od (.dK [])), ⟨0, rfl, rfl, rfl⟩, ?_⟩
  rintro i m σ H' ⟨rfl, rfl, rfl⟩
  refine .inl ⟨⟨upd_same, Nat.le_refl _⟩, upd_same, ?_⟩
  have eu : (upd (upd H1 d (.frz od (.dK []))) d (.dK []) : Hp) = H1 := by
    funext b
    by_cases hb : b = d
    · rw [hb, upd_same]; exact (e1 _ _ hd).symm
    · rw [upd_ne hb, upd_ne hb]
  rw [eu]
  have hsum : Ev (tCB (rSum p.K) (tCons (tCB rListV (tCons (tVals (tVar 1)) tNil)) tNil)) (start ["pieces", "thing", "name", "many"] [v, .ref d]) H1 (.int 0) := fun H2 e2 Q' q' =>
    ⟨.ref d, rfl, d, [], rfl, e2 _ _ (e1 _ _ hd), fun x hx => ⟨x, d, [], rfl, upd_same, (upd_ne (ne_of_none (e2 _ _ (e1 _ _ hd)) hx)).trans (e2 _ _ (e1 _ _ hd)), fun y hy => ⟨y, [], rfl, sq_of upd_same, q' _ ((Ex.new hx).trans (Ex.new hy))⟩⟩⟩
  exact s_ret (D := { nx := fun _ H' => Q .non H', rt := Q }) (v := .bl true) (ev_is (ev_op hsum ev_c rv_I0) rfl) fun H2 e2 => hq _ _ (e1.trans e2) rfl
theorem rd_need_counts (p : Pm) : Keeps (t_need_counts p) ["pieces", "counts"] (sp_need_counts p) := fun vs H Q E ⟨R, ⟨v, d, ev, hd, eR⟩, hq⟩ => by
  subst ev; subst eR
  exact s_must (et_B (ev_pcall (ea_cons (ev_var rfl) (ea_cons (ev_var rfl) ea_nil)) fun H1 e => ⟨v, d, rfl, e _ _ hd, rfl⟩)) fun H1 e1 => hq _ _ e1 rfl
theorem rd_Run_rests (p : Pm) : Keeps (t_Run_rests p) ["self", "turn"] (sp_Run_rests p) := fun vs H Q E ⟨R, ⟨v, n, ev, eR⟩, hq⟩ => by
  subst ev; subst eR
  exact s_ret ev_c fun H1 e1 => hq _ _ e1 rfl
theorem rd_Run_rows (p : Pm) (ok : PmOk p) : Keeps (t_Run_rows p) ["self"] (sp_Run_rows p) := fun vs H Q E ⟨R, ⟨v, o, ev, ⟨a, dx, fs, l, xs, ea, h1, h2, h3, h4, h5⟩, eR⟩, hq⟩ => by
  subst ev; subst eR; subst ea
  refine s_retR (R := NewL RTurn o) (fun H1 e1 Q' q' => (ev_fld (K := p.K) (f := "trodden") (ta := tVar 0) (ev_var rfl) h1 ok.cR ok.nR4 h3) H1 e1 _ fun H2 e2 => ⟨l, xs, rfl, Or.inl (sq_of (e2 _ _ (e1 _ _ h4))), fun q hq1 => q' _ _ (e2.trans (Ex.new hq1)) ⟨q, xs, rfl, upd_same, h5.mono rturn_lst.l ((e1.trans e2).trans (Ex.new hq1))⟩⟩) fun u H1 e1 r => hq _ _ e1 r
/-! ### what makes a lambda: all stays but the tables -/
theorem RPc.extN {p : Pm} {v : V} {rs : List Row} {H H' : Hp} (c : RPc p v rs H) (h : ExtN H H') : RPc p v rs H' := by
  obtain ⟨hw, a, dy, d, xs, ev, g1, g2, g3⟩ := c
  exact ⟨hw, a, dy, d, xs, ev, h _ _ g1 (fun _ z => nomatch z), h _ _ g2 (fun _ z => nomatch z), Paired.mapP g3 fun v r ⟨b, e, hb⟩ => ⟨b, e, h _ _ hb fun _ z => nomatch z⟩⟩
theorem ExtN.bx {x : Addr} {H H' : Hp} (a : ∀ b o, H b = some o → b ≠ x → H' b = some o) (n : H x = none) : ExtN H H' := fun b o h _ => a b o h (ne_of_none h n)
theorem rd_run (p : Pm) (ok : PmOk p) (hfr : p.B.fr = (["counts"] : List Str)) : Keeps (t_run p) ["pieces", "counts"] (sp_run p) := fun vs H Q E ⟨v, rs, d, ev, hv, hk, hd, hT, hq⟩ => by
  subst ev
  refine q_drop (v := .non) (ev_pcall (ea_cons (ev_var rfl) (ea_cons (ev_var rfl) ea_nil)) fun H1 e => ⟨v, d, rfl, e _ _ hd, rfl⟩) fun H1 e1 => ?_
  refine ⟨v, rfl, .ref d, rfl, d, [], rfl, .inl (e1 _ _ hd), fun c hc => ?_⟩
  have e2 : Ex H1 (upd H1 c (.dK [])) := Ex.new hc
  refine ⟨by rw [hfr]; rfl, (hT.ext e1).ext e2, fun f cd cl H3 e3 T3 C3 => ?_⟩
  intro x dx nx ndx ne
  have eX : Ex H3 (upd (upd H3 dx (.own x)) x (.ins p.CR dx [])) := fun b o e => by rw [upd_ne (ne_of_none e nx), upd_ne (ne_of_none e ndx)]; exact e
  have h3 : H3 c = some (.dK []) := e3 _ _ upd_same fun _ z => nomatch z
  have hv3 : RPc p v rs H3 := ((rpc_lst p).l _ _ _ _ (e1.trans e2) hv).extN e3
  refine ⟨x, dx, [v, .ref f], _, rfl, upd_same, ⟨v, rs, f, p.B.L.F cl cd, c, rfl, (rpc_lst p).l _ _ _ _ eX hv3, hk, ⟨cl, cd, rfl⟩, C3.ext (ExtN.of eX), eX _ _ h3, rfl⟩, fun H4 b4 ⟨o, O, rr⟩ => ⟨rfl, ?_⟩⟩
  have x34 : Ex H3 H4 := fun b o e => b4 b o (eX b o e) (ne_of_none e nx)
  exact hq _ H4 o ((ExtN.of (e1.trans e2)).trans (e3.trans (ExtN.of x34))) (T3.ext x34) O rr
theorem q_callA {D : Ends} {tz : TS} {σ : L2.St} {H : Hp} {sp : Sp} {dvs vs : List V} {E : XK} {tl : TA} {i : Nat} (h : EvA tl σ H vs) (k : ∀ H1, Ex H H1 → sp (vs ++ dvs) H1 (fun v H2 => tz D (σ.set i (some v)) H2) E) : tSeq (tAsg (tCall sp dvs E tl) (gName i)) tz D σ H :=
  h H (Ex.refl H) _ k
theorem rd_Kept_order (p : Pm) (ok : PmOk p) : Keeps (t_Kept_order p) ["self", "counts", "found"] (sp_Kept_order p) := fun vs H Q E ⟨v, q, d, ev, ⟨hk3, a, dx, u, ea, ha, hu⟩, hk, hd, hT, hq⟩ => by
  subst ev; subst ea
  have hea : EvA (tCons (tFld p.K (tVar 0) "held") (tCons (tVar 1) tNil)) (start ["self", "counts", "found"] [.ref a, .ref d]) H [u, .ref d] := ea_cons (ev_fld (ev_var rfl) ha ok.cK ok.nKh rfl) (ea_cons (ev_var rfl) ea_nil)
  refine q_callA hea fun H1 e1 => ?_
  refine ⟨u, q.1, d, rfl, (rpc_lst p).l _ _ _ _ e1 hu, hk, e1 _ _ hd, hT.ext e1, fun r H2 o e2 T2 O rr => ?_⟩
  have e12 : ExtN H H2 := (ExtN.of e1).trans e2
  have ha2 : H2 a = some (.ins p.CK dx [("held", u), ("most", .int q.2)]) := e12 _ _ ha fun _ z => nomatch z
  have hd2 : H2 d = some (.dK []) := e12 _ _ hd fun _ z => nomatch z
  have hsum : Ev (tCB rSumV0 (tCons (tVals (tVar 1)) tNil)) ((start ["self", "counts", "found"] [.ref a, .ref d]).set 2 (some r)) H2 (.int 0) := fun H3 e3 Q' q' =>
    ⟨.ref d, rfl, d, [], rfl, e3 _ _ hd2, fun x hx => ⟨x, d, rfl, upd_same, (upd_ne (ne_of_none (e3 _ _ hd2) hx)).trans (e3 _ _ hd2), q' _ (Ex.new hx)⟩⟩
  refine q_skip (et_is (et_test (ev_op hsum (ev_fld (ev_var rfl) ha2 ok.cK ok.nKm rfl) rv_I0)) (decide_eq_false (by have := hk3.1; omega))) fun H3 e3 => ?_
  obtain ⟨b, dy, fs, l, xs, er, g1, g2, g3, g4, g5⟩ := id rr
  refine s_retR (R := NewL RTurn o) (evr_meth (ta := tVar 2) (vs := []) (by rw [er]; exact ev_var rfl) (e3 _ _ g1) g2 ea_nil fun H4 e4 => ⟨.ref b, o, rfl, ⟨b, dy, fs, l, xs, rfl, e4 _ _ (e3 _ _ g1), g2, g3, e4 _ _ (e3 _ _ g4), g5.mono rturn_lst.l (e3.trans e4)⟩, rfl⟩) fun w H4 e4 r4 => hq w H4 o (e12.trans (ExtN.of (e3.trans e4))) (T2.ext (e3.trans e4)) O r4
end Fs

set_option Elab.async false
set_option linter.all false
set_option maxRecDepth 100000
set_option maxHeartbeats 4000000
/-! READINGS -/
namespace Fs
open PySem PySem.Spec PyProof.Rows L2 Evl
theorem sm {i : Int} (h : -1099511627776 ≤ i ∧ i ≤ 1099511627776) : i.natAbs < 2 ^ 1000 := Nat.lt_of_le_of_lt (show i.natAbs ≤ 1099511627776 by omega) (Nat.lt_of_lt_of_le (show 1099511627776 < 2 ^ 41 by decide) (Nat.pow_le_pow_right (by decide) (by decide)))
theorem rv_mul {i j : Int} {H : Hp} (h1 : -1099511627776 ≤ i ∧ i ≤ 1099511627776) (h2 : -1099511627776 ≤ j ∧ j ≤ 1099511627776) : RV rMulW (.int i) (.int j) H (.int (i * j)) := rv_I (mul_small (sm h1) (sm h2))
theorem rv_div {i j : Int} {H : Hp} (h0 : 0 < j) (h2 : j ≤ 1099511627776) : RV rDivW (.int i) (.int j) H (.int (i / j)) := rv_I (wide_div h0 (sm ⟨by omega, h2⟩) (by decide) (by decide))
theorem rv_mod {i j : Int} {H : Hp} (h0 : 0 < j) : RV rModI (.int i) (.int j) H (.int (i % j)) := rv_I h0
theorem lasts_int : Lasts (fun u _ => ∃ n, u = V.int n) := fun _ _ _ _ h => h
theorem atI_int {ns : List Int} {k : Int} (h0 : 0 ≤ k) (h1 : k < (ns.length : Int)) : ∃ n, atI (ns.map V.int) k = some (.int n) := by
  obtain ⟨j, rfl⟩ := Int.eq_ofNat_of_zero_le h0
  have hj : j < ns.length := by omega
  exact ⟨ns[j], atI_nat (by rw [List.getElem?_map, List.getElem?_eq_getElem hj]; rfl)⟩
theorem rd_law_cell (p : Pm) : Keeps (t_law_cell p) ["_law_script", "_law_k"] (sp_law_cell p) := fun vs H Q E ⟨R, ⟨a, ns, k, ev, hs, k0, k1, eR⟩, hq⟩ => by
  subst ev; subst eR
  have hlen : ∀ {H' : Hp}, Ex H H' → Ev (tCB (Evl.rLenS p.K) (tCons (tVar 0) tNil)) (start ["_law_script", "_law_k"] [.ref a, .int k]) H' (.int (ns.length : Int)) := fun e => by
    have := ev_len (K := p.K) (ta := tVar 0) (σ := start ["_law_script", "_law_k"] [.ref a, .int k]) (ev_var rfl) (ex_l e hs)
    rw [List.length_map] at this; exact this
  refine q_when (b := decide (k < (ns.length : Int))) (et_test (ev_op (ev_var rfl) (hlen (Ex.refl H)) rv_I0)) (fun hb H1 e1 => ?_) fun hb H1 e1 => ?_
  · obtain ⟨z, hz⟩ := atI_int (ns := ns) k0 (of_decide_eq_true hb)
    exact s_ret (v := .int z) (ev_op (ev_var rfl) (ev_var (v := .int k) rfl) (rv_ixL (ex_l e1 hs) hz)) fun H2 e2 => hq _ _ (e1.trans e2) ⟨_, rfl⟩
  · refine q_when (et_test (ev_op (hlen e1) ev_c (rv_eq rfl))) (fun hb2 H2 e2 => ?_) fun hb2 H2 e2 => ?_
    · exact s_ret (ev_op (ev_op ev_c (ev_var rfl) (rv_mul ⟨by omega, by omega⟩ ⟨by omega, by omega⟩)) ev_c rv_I0) fun H3 e3 => hq _ _ ((e1.trans e2).trans e3) ⟨_, rfl⟩
    · have hn0 : (ns.length : Int) ≠ 0 := fun z => of_decide_eq_false hb2 (by rw [z])
      have hpos : 0 < (ns.length : Int) := by omega
      have m0 := Int.emod_nonneg k hn0
      have m1 := Int.emod_lt_of_pos k hpos
      obtain ⟨z, hz⟩ := atI_int (ns := ns) m0 m1
      exact s_ret (v := .int (z / (k + 1) + 7919 * k)) (ev_op (ev_op (ev_op (ev_var rfl) (ev_op (ev_var (v := .int k) rfl) (hlen (e1.trans e2)) (rv_mod hpos)) (rv_ixL (ex_l (e1.trans e2) hs) hz)) (ev_op (ev_var rfl) ev_c rv_I0) (rv_div (by omega) (by omega))) (ev_op ev_c (ev_var rfl) (rv_mul ⟨by omega, by omega⟩ ⟨by omega, by omega⟩)) rv_I0)
        fun H3 e3 => hq _ _ ((e1.trans e2).trans e3) ⟨_, rfl⟩
theorem rd_law_box (p : Pm) : Keeps (t_law_box p) ["_law_cell_here"] (sp_law_box p) := fun vs H Q E ⟨R, ⟨n, ev, eR⟩, hq⟩ => by
  subst ev; subst eR
  have hea : EvA (tCons (tCB Evl.rMax2 (tCons (tC (.int 0)) (tCons (tOp rSubI (tVar 0) (tOp rPowI (tC (.int 10)) (tC (.int 18)))) tNil))) (tCons (tOp rModI (tVar 0) (tC (.int 2147483647))) (tCons (tC (.int 0)) tNil))) (start ["_law_cell_here"] [.int n]) H _ :=
    ea_cons (ev_max2 ev_c (ev_op (ev_var rfl) (ev_op ev_c ev_c (rv_I (show CPow 10 18 from ⟨by decide, by decide, by decide⟩))) rv_I0)) (ea_cons (ev_op (ev_var rfl) ev_c (rv_mod (by decide))) (ea_cons ev_c ea_nil))
  have hN : EvN (tLst (tCons (tCB Evl.rMax2 (tCons (tC (.int 0)) (tCons (tOp rSubI (tVar 0) (tOp rPowI (tC (.int 10)) (tC (.int 18)))) tNil))) (tCons (tOp rModI (tVar 0) (tC (.int 2147483647))) (tCons (tC (.int 0)) tNil)))) (start ["_law_cell_here"] [.int n]) H (fun u H' => ∃ q, u = .ref q ∧ Box H' q 1000000) := fun H1 e1 Q' q' =>
    hea H1 e1 _ fun H2 e2 => ⟨sz_of (show 3 ≤ 100000 by decide), fun l hl => q' l _ (fresh_back e2 hl) (e2.trans (Ex.new hl)) ⟨l, rfl, _, _, _, upd_same, Int.emod_nonneg _ (by decide), Int.emod_lt_of_pos _ (by decide), by decide, by decide⟩⟩
  exact s_retN hN fun a H1 hn e1 r => hq a H1 hn e1 r
theorem rd_law_take (p : Pm) : Keeps (t_law_take p) ["_law_box_here", "_law_many", "_law_digit", "_law_number"] (sp_law_take p) := fun vs H Q E ⟨q, m, n, ev, ⟨a, b, c, hb, b0, b1, c0, c1⟩, m0, m1, hq⟩ => by
  subst ev
  refine q_when (et_test (ev_op (ev_op (ev_var rfl) ev_c (rv_ixL (sq_of hb) (atI_nat (j := 0) rfl))) ev_c rv_I0)) (fun hc H1 e1 => ?_) fun hc H1 e1 => ?_
  · have hb1 := e1 _ _ hb
    refine q_asg (ev_op (ev_op (ev_var rfl) ev_c (rv_ixL (sq_of hb1) (atI_nat (j := 0) rfl))) (ev_var rfl) (rv_mod (by omega))) fun H2 e2 => ?_
    have hb2 := e2 _ _ hb1
    refine q_setL (j := 0) hb2 (ev_op (ev_op (ev_var rfl) ev_c (rv_ixL (sq_of hb2) (atI_nat (j := 0) rfl))) (ev_var rfl) (rv_div (by omega) (by omega))) (ev_var rfl) ev_c (by show 0 < 3; decide) fun H3 e3 => ?_
    refine s_ret (v := .int (a % m)) (ev_var rfl) fun H4 e4 => hq _ _ ?_ ⟨_, b, c, e4 _ _ upd_same, b0, b1, c0, by omega⟩ (Int.emod_nonneg _ (by omega)) (Int.emod_lt_of_pos _ (by omega))
    exact ((ExB.of ((e1.trans e2).trans e3)).upd).trans (ExB.of e4)
  · have hb1 := e1 _ _ hb
    refine q_setL (j := 2) hb1 (ev_op (ev_op (ev_var rfl) ev_c (rv_ixL (sq_of hb1) (atI_nat (j := 2) rfl))) ev_c rv_I0) (ev_var rfl) ev_c (by show 2 < 3; decide) fun H2 e2 => ?_
    have hb2 : (upd H2 q (.lst [.int a, .int b, .int (c + 1)]) : Hp) q = some (.lst [.int a, .int b, .int (c + 1)]) := upd_same
    show tSeq _ _ _ _ (upd H2 q (.lst [.int a, .int b, .int (c + 1)]))
    refine q_asg (v := .int ((b * 48271 + 7919 * (c + 1) + 11) % 2147483629)) (ev_op (ev_op (ev_op (ev_op (ev_op (ev_var rfl) ev_c (rv_ixL (sq_of hb2) (atI_nat (j := 1) rfl))) ev_c (rv_mul ⟨by omega, by omega⟩ ⟨by decide, by decide⟩)) (ev_op ev_c (ev_op (ev_var rfl) ev_c (rv_ixL (sq_of hb2) (atI_nat (j := 2) rfl))) (rv_mul ⟨by decide, by decide⟩ ⟨by omega, by omega⟩)) rv_I0) ev_c rv_I0) ev_c (rv_mod (by decide))) fun H3 e3 => ?_
    generalize hx : (b * 48271 + 7919 * (c + 1) + 11) % 2147483629 = x
    have x0 : 0 ≤ x := by rw [← hx]; exact Int.emod_nonneg _ (by decide)
    have x1 : x < 2147483629 := by rw [← hx]; exact Int.emod_lt_of_pos _ (by decide)
    refine q_asg (v := .int (x * x % 2147483587 * 69621 % 2147483647)) (ev_op (ev_op (ev_op (ev_op (ev_var rfl) (ev_var rfl) (rv_mul ⟨by omega, by omega⟩ ⟨by omega, by omega⟩)) ev_c (rv_mod (by decide))) ev_c (rv_mul ⟨by have := Int.emod_nonneg (x * x) (show (2147483587 : Int) ≠ 0 by decide); omega, by have := Int.emod_lt_of_pos (x * x) (show (0 : Int) < 2147483587 by decide); omega⟩ ⟨by decide, by decide⟩)) ev_c (rv_mod (by decide))) fun H4 e4 => ?_
    generalize hy : x * x % 2147483587 * 69621 % 2147483647 = y
    have y0 : 0 ≤ y := by rw [← hy]; exact Int.emod_nonneg _ (by decide)
    have y1 : y < 2147483647 := by rw [← hy]; exact Int.emod_lt_of_pos _ (by decide)
    refine s_ret (v := .int (y * y % 2147483629 / 8 % m)) (ev_op (ev_op (ev_op (ev_op (ev_var rfl) (ev_var rfl) (rv_mul ⟨by omega, by omega⟩ ⟨by omega, by omega⟩)) ev_c (rv_mod (by decide))) ev_c (rv_div (by decide) (by decide))) (ev_var rfl) (rv_mod (by omega))) fun H5 e5 => hq _ _ ?_ ⟨a, b, c + 1, ((e3.trans e4).trans e5) _ _ hb2, b0, b1, by omega, by omega⟩ (Int.emod_nonneg _ (by omega)) (Int.emod_lt_of_pos _ (by omega))
    exact ((ExB.of (e1.trans e2)).upd).trans (ExB.of ((e3.trans e4).trans e5))
/-! ### the law's weighing -/
theorem newL_lasts {α : Type} {R : RL α} (l : Lst R) (as : List α) : Lasts (NewL R as) := fun v H H' e ⟨p, xs, h1, h2, h3⟩ => ⟨p, xs, h1, e _ _ h2, h3.mono l.l e⟩
theorem lsAt_ex {α : Type} {R : RL α} (l : Lst R) {v : V} {as : List α} {H H' : Hp} (h : LsAt R v as H) (e : Ex H H') : LsAt R v as H' := newL_lasts l as v H H' e h
theorem evr_ls {α : Type} {R : RL α} {σ : L2.St} {H : Hp} {v : V} {as : List α} {i : Nat} (l : Lst R) (h : LsAt R v as H) (hi : σ[i]? = some (some v)) : EvR (tVar i) σ H (NewL R as) := evr_var hi (newL_lasts l as) h
theorem max0 {ns : List Int} (pos : ∀ y ∈ ns, 0 ≤ y) {m : Int} (h1 : m ∈ ns ++ [0]) (h2 : ∀ y ∈ ns ++ [0], y ≤ m) : m = Fm.mx ns := by
  have hm0 : 0 ≤ m := h2 0 (by simp)
  refine Fm.mx_eq ?_ hm0 fun a ha => h2 a (List.mem_append_left _ ha)
  rcases List.mem_append.mp h1 with h | h
  · exact .inl h
  · exact .inr (by simpa using h)
theorem ev_max0 {K : PySem.W.Frag} {σ : L2.St} {H : Hp} {te : TE} {ns : List Int} (h : EvR te σ H (NewL RInt ns)) (pos : ∀ y ∈ ns, 0 ≤ y) (hn : ns.length ≤ 1000) : Ev (tCB (rMax K) (tCons (tOp rCat te (tLst (tCons (tC (.int 0)) tNil))) tNil)) σ H (.int (Fm.mx ns)) := fun H1 e Q q =>
  (evr_cat h (evr_lst1 (a := (0 : Int)) (evr_ev ev_c) rint_lst) rint_lst (by simp; omega)) H1 e _ fun u H2 e2 ⟨a, xs, eu, ha, hx⟩ => ⟨a, ns ++ [0], by rw [eu], sq_of (by rw [ha, are_int hx]), by simp, fun m h1 h2 => by rw [max0 pos h1 h2]; exact q H2 e2⟩
theorem rd_law_need (p : Pm) : Keeps (t_law_need p) ["_law_rows", "_law_start", "_law_end", "_law_failings", "_law_inside", "_law_row"] (sp_law_need p) := fun vs H Q E ⟨R, ⟨v, rs, s, e, k, ev, hv, hl, ok, hk, eR⟩, hq⟩ => by
  subst ev; subst eR
  have wl := within_len rs s e
  refine q_asgR (evr_cast (by rw [List.map_id']; rfl) (evr_lcL (K := p.K) (f := Fm.inb s e) (h := fun r => r) rrow_lst.l rrow_lst (s2 := fun x => [some v, some (.int s), some (.int e), some (.int k), none, some x]) (newL_src (evr_ls rrow_lst hv rfl)) (by omega) (fun x a H1 _ k hk => hk) (fun x => rfl)
    (fun x a H2 e2 ha rx => ?_) fun x a H2 e2 ha rx _ => evr_var rfl (lasts_of rrow_lst.l) rx) : EvR _ _ _ (NewL RRow (Fm.within rs s e))) fun u H1 e1 hu => ?_
  · obtain ⟨c, rfl, hc⟩ := rx
    exact et_and (et_test (ev_op (ev_var rfl) (ev_ixT (i := 1) (ev_var rfl) hc rfl) rv_I0)) fun _ => et_test (ev_op (ev_ixT (i := 2) (ev_var rfl) hc rfl) (ev_var rfl) rv_I0)
  have src : EvR (tVar 4) ((start ["_law_rows", "_law_start", "_law_end", "_law_failings", "_law_inside", "_law_row"] [v, .int s, .int e, .int k]).set 4 (some u)) H1 (NewL RRow (Fm.within rs s e)) := evr_ls rrow_lst hu rfl
  have pos : ∀ y ∈ (Fm.within rs s e).map (·.c), 0 ≤ y := fun y hy => by
    obtain ⟨r, hr, rfl⟩ := List.mem_map.mp hy
    have := (ok r (Fm.mem_within.mp hr).1).c1
    omega
  have g1 := gl_le ok s e
  have g2 := Fm.gl_nonneg rs s e
  exact s_ret (ev_op (ev_sum (evr_col (i := 4) (col := fun r => r.r) (s2 := fun x => [some v, some (.int s), some (.int e), some (.int k), some u, some x]) (j := 5) (vs := [5]) src (by omega) (fun x => rfl) (fun x => rfl) (fun x => rfl) fun r => rfl)) (ev_op (ev_var rfl) (ev_max0 (evr_col (i := 3) (col := fun r => r.c) (s2 := fun x => [some v, some (.int s), some (.int e), some (.int k), some u, some x]) (j := 5) (vs := [5]) src (by omega) (fun x => rfl) (fun x => rfl) (fun x => rfl) fun r => rfl) pos (by rw [List.length_map]; omega))
    (rv_mul ⟨by have := hk.1; omega, by have := hk.2; omega⟩ ⟨by show -1099511627776 ≤ Fm.gl rs s e; omega, by show Fm.gl rs s e ≤ _; omega⟩)) rv_I0) fun H2 e2 => hq _ _ (e1.trans e2) rfl
theorem ev_lneed {p : Pm} {σ : L2.St} {H : Hp} {ta tb tc td : TE} {v : V} {rs : List Row} {s e k : Int} (h1 : Ev ta σ H v) (h2 : Ev tb σ H (.int s)) (h3 : Ev tc σ H (.int e)) (h4 : Ev td σ H (.int k)) (hv : LsAt RRow v rs H) (hl : rs.length ≤ 100) (ok : Fm.Oks rs) (hk : K3 k) :
    Ev (tCall (sp_law_need p) [] E0 (tCons ta (tCons tb (tCons tc (tCons td tNil))))) σ H (.int (Fm.need rs s e k)) :=
  ev_pcall (ea_cons h1 (ea_cons h2 (ea_cons h3 (ea_cons h4 ea_nil)))) fun H1 ex => ⟨v, rs, s, e, k, rfl, lsAt_ex rrow_lst hv ex, hl, ok, hk, rfl⟩
theorem lsAt_b {α : Type} {R : RL α} (l : Lst R) {v : V} {as : List α} {H H' : Hp} {D : Addr} {ys : List V} (h : LsAt R v as H) (hD : H D = some (.lst ys)) (ne : ∀ a, v = .ref a → a ≠ D) (e : ExB D H H') : LsAt R v as H' := by
  obtain ⟨a, xs, ev, ha, hx⟩ := h
  exact ⟨a, xs, ev, e _ _ ha (ne a ev), Paired.mapP hx fun v b r => l.b hD e r⟩
theorem rd_law_short (p : Pm) : Keeps (t_law_short p) ["_law_rows", "_law_failings", "_law_found", "_law_start", "_law_row", "_law_end"] (sp_law_short p) := fun vs H Q E ⟨R, ⟨v, rs, k, ev, hv, hl, ok, hk, eR⟩, hq⟩ => by
  subst ev; subst eR
  refine q_new fun D hD => ?_
  have e1 : Ex H (upd H D (.lst [])) := Ex.new hD
  have hD1 : (upd H D (.lst []) : Hp) D = some (.lst []) := upd_same
  have hv1 := lsAt_ex rrow_lst hv e1
  have ne : ∀ a, v = .ref a → a ≠ D := fun a ea => by
    obtain ⟨b, xs, eb, hb, _⟩ := hv
    rw [ea] at eb; cases eb
    exact ne_of_none hb hD
  have hls : (Fm.starts rs).length ≤ 100 := by have := Fm.srt_len (rs.map (·.f)); rw [List.length_map] at this; exact Nat.le_trans this hl
  have hle : (Fm.ends rs).length ≤ 100 := by have := Fm.srt_len (rs.map (·.l)); rw [List.length_map] at this; exact Nat.le_trans this hl
  have wl : ∀ s e : Int, (Fm.within rs s e).length ≤ rs.length := within_len rs
  refine acc_forN (D := { nx := tRet (tVar 2) { nx := fun _ H' => Q .non H', rt := Q }, rt := Q }) (as := Fm.starts rs) (Dl := D) (bs := []) (RB := RPair) (f := fun s => ((Fm.ends rs).filter fun e => decide (s - 1 ≤ e) && decide (e - s + 1 < Fm.need rs s e k)).map fun e => (s, e))
    (Sl := fun σ => ∃ y4 y3 y5, σ = [some v, some (.int k), some (.ref D), y3, y4, y5]) rint_lst rpair_lst (evn_sorted (evr_col (i := 1) (col := fun r => r.f) (s2 := fun x => [some v, some (.int k), some (.ref D), none, some x, none]) (j := 4) (vs := [4]) (evr_ls rrow_lst hv1 rfl) (by omega) (fun x => rfl) (fun x => rfl) (fun x => rfl) fun r => rfl) (by rw [List.length_map]; omega))
    (acc_nil hD1) ⟨_, _, _, rfl⟩ (fun x s σ' H' cs hs rx ⟨y4, y3, y5, es⟩ eB A hcl N hN => ?_) fun σ' H' ⟨y4, y3, y5, es⟩ eB A => ?_
  · have ex : x = .int s := rx
    subst ex; subst es
    have hv' := lsAt_b rrow_lst hv1 hD1 ne eB
    refine acc_forN (as := Fm.ends rs) (Dl := D) (bs := cs) (RB := RPair) (f := fun e => if (decide (s - 1 ≤ e) && decide (e - s + 1 < Fm.need rs s e k)) = true then [(s, e)] else [])
      (Sl := fun σ => ∃ y4 y5, σ = [some v, some (.int k), some (.ref D), some (.int s), y4, y5]) rint_lst rpair_lst (evn_sorted (evr_col (i := 2) (col := fun r => r.l) (s2 := fun x => [some v, some (.int k), some (.ref D), some (.int s), some x, y5]) (j := 4) (vs := [4]) (evr_ls rrow_lst hv' rfl) (by omega) (fun x => rfl) (fun x => rfl) (fun x => rfl) fun r => rfl) (by rw [List.length_map]; omega))
      A ⟨_, _, rfl⟩ (fun y e σ2 H4 ds he ry ⟨z4, z5, es2⟩ eB2 A2 hdl N2 hN2 => ?_) fun σ2 H4 ⟨z4, z5, es2⟩ eB2 A2 => hN _ _ ⟨z4, _, z5, es2⟩ eB2 (by rw [flat_if] at A2; exact A2)
    have ey : y = .int e := ry
    subst ey; subst es2
    obtain ⟨ys, hDy, _⟩ := id A
    have hv4 := lsAt_b rrow_lst hv' hDy ne eB2
    refine s_when (et_and (et_test (ev_op (ev_var rfl) (ev_op (ev_var rfl) ev_c rv_I0) rv_I0)) fun _ => et_test (ev_op (ev_lneed (ev_var rfl) (ev_var rfl) (ev_var rfl) (ev_var rfl) hv4 hl ok hk) (ev_op (ev_op (ev_var rfl) (ev_var rfl) rv_I0) ev_c rv_I0) rv_I0)) (fun hb H5 e5 => ?_) fun hb H5 e5 => hN2 _ _ ⟨_, _, rfl⟩ (ExB.of e5) (by rw [if_neg (by rw [hb]; decide), List.append_nil]; exact A2.ex rpair_lst e5)
    refine acc_app rpair_lst (A2.ex rpair_lst e5) (i := 2) rfl (evr_pair (ev_var rfl) (ev_var rfl)) ?_ fun H6 e6 A6 => hN2 _ _ ⟨_, _, rfl⟩ ((ExB.of e5).trans e6) (by rw [if_pos hb]; exact A6)
    rw [List.length_append] at hdl
    have b1 : ((Fm.ends rs).flatMap fun e => if (decide (s - 1 ≤ e) && decide (e - s + 1 < Fm.need rs s e k)) = true then [(s, e)] else []).length ≤ (Fm.ends rs).length * 1 := flat_len _ fun a => by split <;> simp
    rw [List.nil_append] at hcl
    have b3 := flat_len (n := 100) (f := fun s => ((Fm.ends rs).filter fun e => decide (s - 1 ≤ e) && decide (e - s + 1 < Fm.need rs s e k)).map fun e => (s, e)) (Fm.starts rs) fun a => by rw [List.length_map]; exact Nat.le_trans (List.length_filter_le _ _) hle
    have b4 : (Fm.starts rs).length * 100 ≤ 100 * 100 := Nat.mul_le_mul_right _ hls
    omega
  · subst es
    obtain ⟨ys, h1, h2⟩ := A
    have eH : Ex H H' := ExB.back e1 eB hD
    exact s_ret (ev_var rfl) fun H4 e4 => hq _ H4 (eH.trans e4) ⟨D, ys, rfl, e4 _ _ h1, h2.mono rpair_lst.l e4⟩
end Fs

set_option Elab.async false
set_option linter.all false
set_option maxRecDepth 100000
set_option maxHeartbeats 4000000
/-! READINGS -/
namespace Fs
open PySem PySem.Spec PyProof.Rows L2 Evl
/-! ### comprehension over a list whose turn unpacks -/
section
variable {K : PySem.W.Frag} {α β : Type} {σ : L2.St} {H : Hp} {wi : TI} {g : TG} {tt : TT} {te : TE} {vs : List Nat} {RA : RL α} {RB : RL β} {tl : TE} {as : List α} {f : α → Bool} {h : α → β} {s2 : V → α → L2.St}
theorem evr_lcG (lA : LastsL RA) (lB : Lst RB) (src : EvR tl σ H (NewL RA as)) (hn : as.length ≤ 40000)
    (hg : ∀ x a H1, RA x a H1 → ∀ k : L2.St → Hp → Prop, k (s2 x a) H1 → g x (wipe σ vs) H1 k) (hw : ∀ x a, wipe (s2 x a) vs = wipe σ vs)
    (ht : ∀ x a H1, Ex H H1 → a ∈ as → RA x a H1 → EvT tt (s2 x a) H1 (f a)) (he : ∀ x a H1, Ex H H1 → a ∈ as → RA x a H1 → f a = true → EvR te (s2 x a) H1 (fun v H2 => RB v (h a) H2)) :
    EvR (tLc (iList K tl) g tt te vs) σ H (NewL RB ((as.filter f).map h)) := fun H0 e Q q => src H0 e _ fun v H1 e1 ⟨a, xs, ev, ha, ar⟩ => by
  subst ev
  refine ⟨a, rfl, ⟨xs, sq_of ha⟩, fun D hD => lc_list (xs := xs) (CompInv RB f h as H1 D) (comp_start hD) (fun i H' _ p => sq_of (p.2.1 _ _ ha)) (fun i x H' hi p => ?_) (fun H' p => comp_end lB e1 ar.length p q)⟩
  obtain ⟨b, hb, rb⟩ := ar.get hi
  have mb := List.mem_of_getElem? hb
  exact hg x b H' (lA x b H1 H' p.2.1 rb) _ ⟨hw x b, comp_turn lB hb hn p (ht x b H1 (e.trans e1) mb rb) (he x b H1 (e.trans e1) mb rb)⟩
end
/-- two lists of things compared -/
theorem et_neL {α : Type} [DecidableEq α] {K : PySem.W.Frag} {R : RL α} {G : α → Prop} {d : α → PyData} (D : Dat K R G d) (l : Lst R) {σ : L2.St} {H : Hp} {ta tb : TE} {as bs : List α} (ha : EvR ta σ H (NewL R as)) (hb : EvR tb σ H (NewL R bs)) (ga : ∀ a ∈ as, G a) (gb : ∀ a ∈ bs, G a) : EvT (tTest (tOp (rNeD K) ta tb)) σ H (!decide (as = bs)) :=
  et_test fun H1 e Q q => ha H1 e _ fun u H2 e2 ⟨x, xs, eu, hx, ax⟩ => hb H2 (e.trans e2) _ fun v H3 e3 ⟨y, ys, ev, hy, ay⟩ => ⟨.list (as.map d), .list (bs.map d), by rw [eu]; exact D.dpL (e3 _ _ hx) (ax.mono l.l e3), by rw [ev]; exact D.dpL hy ay, D.shapeL _ ga, D.shapeL _ gb, by rw [D.eqL]; exact q _ (e2.trans e3)⟩
theorem ev_eqL {α : Type} [DecidableEq α] {K : PySem.W.Frag} {R : RL α} {G : α → Prop} {d : α → PyData} (D : Dat K R G d) (l : Lst R) {σ : L2.St} {H : Hp} {ta tb : TE} {as bs : List α} (ha : EvR ta σ H (NewL R as)) (hb : EvR tb σ H (NewL R bs)) (ga : ∀ a ∈ as, G a) (gb : ∀ a ∈ bs, G a) : Ev (tOp (rEqD K) ta tb) σ H (.bl (decide (as = bs))) := fun H1 e Q q =>
  ha H1 e _ fun u H2 e2 ⟨x, xs, eu, hx, ax⟩ => hb H2 (e.trans e2) _ fun v H3 e3 ⟨y, ys, ev, hy, ay⟩ => ⟨.list (as.map d), .list (bs.map d), by rw [eu]; exact D.dpL (e3 _ _ hx) (ax.mono l.l e3), by rw [ev]; exact D.dpL hy ay, D.shapeL _ ga, D.shapeL _ gb, by rw [D.eqL]; exact q _ (e2.trans e3)⟩
theorem evr_nil {α : Type} {R : RL α} {σ : L2.St} {H : Hp} : EvR (tLst tNil) σ H (NewL R ([] : List α)) := fun H1 e Q q => ⟨Nat.zero_le _, fun l hl => q _ _ (Ex.new hl) ⟨l, [], rfl, upd_same, .nil⟩⟩
theorem ev_lenLs {α : Type} {K : PySem.W.Frag} {R : RL α} {σ : L2.St} {H : Hp} {te : TE} {as : List α} (h : EvR te σ H (NewL R as)) : Ev (tCB (Evl.rLenS K) (tCons te tNil)) σ H (.int (as.length : Int)) := ev_lenL h
theorem rd_law_order_right (p : Pm) : Keeps (t_law_order_right p) ["_law_rows", "_law_order", "_law_turns", "_law_one", "_law_name", "_law_first", "_law_last", "_law_length", "_law_left", "_law_mine", "_law_turn", "_law_other", "_law_row"] (sp_law_order_right p) := fun vs H Q E ⟨R, ⟨v, rs, u, o, ev, hv, hu, O, eR⟩, hq⟩ => by
  subst ev; subst eR
  have ol := O.len
  have hc : EvR (tLc (iList p.K (tVar 1)) (gName 3) tYes (tOp (rIxT p.K) (tVar 3) (tC (.int 0))) [3]) (start ["_law_rows", "_law_order", "_law_turns", "_law_one", "_law_name", "_law_first", "_law_last", "_law_length", "_law_left", "_law_mine", "_law_turn", "_law_other", "_law_row"] [v, u]) H (NewL RInt (o.map (·.1))) :=
    evr_cast (by rw [filter_true]) (evr_lcG (K := p.K) (f := fun _ => true) (h := fun x : Int × Str => x.1) rturn_lst.l rint_lst (s2 := fun x _ => [some v, some u, none, some x, none, none, none, none, none, none, none, none, none]) (evr_ls rturn_lst hu rfl) (by omega) (fun x a H1 _ k hk => hk) (fun x a => rfl) (fun _ _ _ _ _ _ => et_yes) fun x a H2 _ _ ⟨c, ec, hx⟩ _ => by subst ec; exact evr_ev (ev_ixT (i := 0) (ev_var rfl) hx rfl))
  refine q_asgR hc fun tu H1 e1 htu => ?_
  have src : ∀ {H'}, Ex H1 H' → EvR (tVar 2) ((start ["_law_rows", "_law_order", "_law_turns", "_law_one", "_law_name", "_law_first", "_law_last", "_law_length", "_law_left", "_law_mine", "_law_turn", "_law_other", "_law_row"] [v, u]).set 2 (some tu)) H' (NewL RInt (o.map (·.1))) := fun e => evr_ls rint_lst (lsAt_ex rint_lst htu e) rfl
  refine q_skip (et_is (et_neL (dat_int p.K) rint_lst (src (Ex.refl _)) (evn_sorted (src (Ex.refl _)) (by rw [List.length_map]; omega)).r (fun _ _ => trivial) (fun _ _ => trivial)) (by rw [Fm.srt_self O.up]; simp)) fun H2 e2 => ?_
  have e12 := e1.trans e2
  have hv2 := lsAt_ex rrow_lst hv e12
  have hu2 := lsAt_ex rturn_lst hu e12
  refine for_find (D := { nx := tRet (tOp rEq (tCB (Evl.rLenS p.K) (tCons (tVar 1) tNil)) (tCB (rSum p.K) (tCons (tLc (iList p.K (tVar 0)) (gName 12) tYes (tOp (rIxT p.K) (tVar 12) (tC (.int 4))) [12]) tNil))) { nx := fun _ H' => Q .non H', rt := Q }, rt := Q }) (as := rs) (f := fun _ => false)
    (Sl := fun σ => ∃ y2 y3 y4 y5 y6 y7 y8 y9 y10 y11 y12, σ = [some v, some u, y2, y3, y4, y5, y6, y7, y8, y9, y10, y11, y12]) rrow_lst.l (evr_ls rrow_lst hv2 rfl) ⟨_, _, _, _, _, _, _, _, _, _, _, rfl⟩
    (fun x r σ' H' hr rx ⟨y2, y3, y4, y5, y6, y7, y8, y9, y10, y11, y12, es⟩ e3 _ N hN => ?_) fun _ σ' H' ⟨y2, y3, y4, y5, y6, y7, y8, y9, y10, y11, y12, es⟩ e3 => ?_
  · subst es
    obtain ⟨b, rfl, hb⟩ := rx
    refine ⟨b, _, rfl, st_of hb, rfl, .str r.n, _, rfl, .int r.f, _, rfl, .int r.l, _, rfl, .int r.c, _, rfl, .int r.r, [], rfl, rfl, ?_⟩
    have hu3 := lsAt_ex rturn_lst hu2 e3
    have hmine : EvR (tLc (iList p.K (tVar 1)) (gTup p.K 2 (gCons (gName 10) (gCons (gName 11) gNil))) (tTest (tOp rEq (tVar 11) (tVar 4))) (tVar 10) [10, 11]) [some v, some u, y2, y3, some (.str r.n), some (.int r.f), some (.int r.l), some (.int r.c), some (.int r.r), y9, y10, y11, y12] H' (NewL RInt ((o.filter fun x => decide (x.2 = r.n)).map (·.1))) :=
      evr_lcG (K := p.K) (f := fun x : Int × Str => decide (x.2 = r.n)) (h := fun x : Int × Str => x.1) rturn_lst.l rint_lst (s2 := fun _ a => [some v, some u, y2, y3, some (.str r.n), some (.int r.f), some (.int r.l), some (.int r.c), some (.int r.r), y9, some (.int a.1), some (.str a.2), y12]) (evr_ls rturn_lst hu3 rfl) (by omega)
        (fun x a H1 ⟨c, ec, hx⟩ k hk => ⟨c, _, ec, st_of hx, rfl, .int a.1, _, rfl, .str a.2, [], rfl, rfl, hk⟩) (fun x a => rfl) (fun x a H2 _ _ _ => et_is (et_test (ev_op (ev_var rfl) (ev_var rfl) (rv_eq rfl))) (by by_cases h : a.2 = r.n <;> simp [h])) fun x a H2 _ _ _ _ => evr_ev (ev_var rfl)
    refine q_asgR hmine fun mu H4 e4 hmu => ?_
    have hm1 : EvR (tVar 9) ([some v, some u, y2, y3, some (.str r.n), some (.int r.f), some (.int r.l), some (.int r.c), some (.int r.r), some mu, y10, y11, y12]) H4 (NewL RInt ((o.filter fun x => decide (x.2 = r.n)).map (·.1))) := evr_ls rint_lst hmu rfl
    have fl : ((o.filter fun x => decide (x.2 = r.n)).map (·.1)).length ≤ 1000 := by rw [List.length_map]; exact Nat.le_trans (List.length_filter_le _ _) ol
    have hnil : ((((o.filter fun x => decide (x.2 = r.n)).map (·.1)).filter fun a : Int => !(decide (r.f ≤ a) && decide (a ≤ r.l))).map fun a : Int => a) = ([] : List Int) := by
      rw [List.map_id']
      refine List.filter_eq_nil_iff.mpr fun a ha => ?_
      obtain ⟨x, hx, rfl⟩ := List.mem_map.mp ha
      have hx' := List.mem_filter.mp hx
      have h2 := O.win r hr x hx'.1 (of_decide_eq_true hx'.2)
      simp [h2.1, h2.2]
    have hbad : EvR (tLc (iList p.K (tVar 9)) (gName 10) (tNot (tTest (tChain rLeI rLeI (tVar 5) (tVar 10) (tVar 6)))) (tVar 10) [10]) [some v, some u, y2, y3, some (.str r.n), some (.int r.f), some (.int r.l), some (.int r.c), some (.int r.r), some mu, y10, y11, y12] H4 (NewL RInt ([] : List Int)) :=
      evr_cast hnil (evr_lcG (K := p.K) (as := (o.filter fun x => decide (x.2 = r.n)).map (·.1)) (f := fun a : Int => !(decide (r.f ≤ a) && decide (a ≤ r.l))) (h := fun a : Int => a) rint_lasts rint_lst (s2 := fun x _ => [some v, some u, y2, y3, some (.str r.n), some (.int r.f), some (.int r.l), some (.int r.c), some (.int r.r), some mu, some x, y11, y12]) hm1 (by omega) (fun x a H1 _ k hk => hk) (fun x a => rfl)
            (fun x a H2 _ _ rx => by
              have ex : x = .int a := rx
              subst ex
              exact et_not (et_test (ev_chain (f := fun i j => decide (i ≤ j)) (g := fun i j => decide (i ≤ j)) (ev_var rfl) (ev_var rfl) (ev_var rfl)))) fun x a H2 _ _ rx _ => evr_var rfl (lasts_of rint_lasts) rx)
    refine s_when (b := false) (et_is (et_or (et_test (ev_op (ev_lenLs hm1) (ev_var rfl) (rv_ne rfl))) fun _ => et_neL (dat_int p.K) rint_lst hbad evr_nil (fun _ _ => trivial) (fun _ _ => trivial)) (by rw [O.mine r hr]; simp)) (fun h => by cases h) fun _ H5 e5 => hN rfl _ _ ⟨_, _, _, _, _, _, _, _, _, _, _, rfl⟩ (e4.trans e5)
  · subst es
    have hv3 := lsAt_ex rrow_lst hv2 e3
    have hu3 := lsAt_ex rturn_lst hu2 e3
    have hrl : ∃ n : Nat, rs.length = n := ⟨_, rfl⟩
    have hcol : EvR (tLc (iList p.K (tVar 0)) (gName 12) tYes (tOp (rIxT p.K) (tVar 12) (tC (.int 4))) [12]) [some v, some u, y2, y3, y4, y5, y6, y7, y8, y9, y10, y11, y12] H' (NewL RInt (rs.map (·.r))) :=
      evr_col (i := 4) (col := fun r => r.r) (s2 := fun x => [some v, some u, y2, y3, y4, y5, y6, y7, y8, y9, y10, y11, some x]) (j := 12) (vs := [12]) (evr_ls rrow_lst hv3 rfl) (by have := O.rl; omega) (fun x => rfl) (fun x => rfl) (fun x => rfl) fun r => rfl
    exact s_ret (v := .bl true) (D := { nx := fun _ H' => Q .non H', rt := Q }) (ev_is (ev_op (ev_lenLs (evr_ls rturn_lst hu3 rfl)) (ev_sum hcol) (rv_eq rfl)) (by rw [O.all, decide_eq_true rfl])) fun H4 e4 => hq _ H4 ((e12.trans e3).trans e4) rfl
end Fs

set_option Elab.async false
set_option linter.all false
set_option maxRecDepth 100000
set_option maxHeartbeats 4000000
/-! READINGS -/
namespace Fs
open PySem PySem.Spec PyProof.Rows L2 Evl
theorem evr_lshort {p : Pm} {σ : L2.St} {H : Hp} {ta tb : TE} {rs : List Row} {k : Int} (h1 : EvR ta σ H (NewL RRow rs)) (h2 : Ev tb σ H (.int k)) (hl : rs.length ≤ 100) (ok : Fm.Oks rs) (hk : K3 k) : EvR (tCall (sp_law_short p) [] E0 (tCons ta (tCons tb tNil))) σ H (NewL RPair (Fm.lawShort rs k)) :=
  evr_callR (P := fun us H' => ∃ u, us = [u, .int k] ∧ LsAt RRow u rs H') (fun H1 e Q q => h1 H1 e _ fun u H2 e2 r => h2 H2 (e.trans e2) _ fun H3 e3 => q _ H3 (e2.trans e3) ⟨u, rfl, lsAt_ex rrow_lst r e3⟩)
    fun us H1 e ⟨u, eu, r⟩ => ⟨u, rs, k, eu, r, hl, ok, hk, rfl⟩
/-- short(rows, k) == [] -/
theorem ev_isKept {p : Pm} {σ : L2.St} {H : Hp} {ta tb : TE} {rs : List Row} {k : Int} (h1 : EvR ta σ H (NewL RRow rs)) (h2 : Ev tb σ H (.int k)) (hl : rs.length ≤ 100) (ok : Fm.Oks rs) (hk : K3 k) : Ev (tOp (rEqD p.K) (tCall (sp_law_short p) [] E0 (tCons ta (tCons tb tNil))) (tLst tNil)) σ H (.bl (decide (Fm.lawShort rs k = []))) :=
  ev_eqL (dat_pair p.K) rpair_lst (evr_lshort h1 h2 hl ok hk) evr_nil (fun _ _ => trivial) (fun _ _ => trivial)
theorem rd_law_borne (p : Pm) : Keeps (t_law_borne p) ["_law_rows", "_law_found"] (sp_law_borne p) := fun vs H Q E ⟨R, ⟨v, rs, ev, hv, hl, ok, eR⟩, hq⟩ => by
  subst ev; subst eR
  refine q_asg (v := .int (0 - 1)) (ev_op ev_c ev_c rv_I0) fun H1 e1 => ?_
  refine q_while (fun m σ H' => ∃ f : Int, σ = [some v, some (.int f)] ∧ -1 ≤ f ∧ f ≤ 200 ∧ (0 ≤ f → Fm.Kept rs f) ∧ Ex H H' ∧ m = (201 - f).toNat) 202 ⟨0 - 1, rfl, by decide, by decide, fun h => absurd h (by decide), e1, rfl⟩ fun m σ' H' ⟨f, es, f1, f2, f3, eH, em⟩ => ?_
  subst es
  have hv' := lsAt_ex rrow_lst hv eH
  refine ⟨_, et_and (et_test (ev_isKept (evr_ls rrow_lst hv' rfl) (ev_op (ev_var rfl) ev_c rv_I0) hl ok ⟨by omega, by omega⟩)) fun _ => et_test (ev_op (ev_var rfl) ev_c rv_I0), fun hb H2 e2 => ?_, fun hb H2 e2 => ?_⟩
  · rw [Bool.and_eq_true, decide_eq_true_eq, decide_eq_true_eq] at hb
    refine ⟨_, fun σ2 H2 h => h, ?_⟩
    exact s_asg (v := .int (f + 1)) (ev_op (ev_var rfl) ev_c rv_I0) fun H3 e3 => ⟨(201 - (f + 1)).toNat, by omega, f + 1, rfl, by omega, by omega, fun _ => (Fm.lawShort_iff ok).mp hb.1, (eH.trans e2).trans e3, rfl⟩
  · refine s_ret (ev_var rfl) fun H3 e3 => hq _ H3 ((eH.trans e2).trans e3) ⟨f, rfl, f1, f2, f3, ?_⟩
    rw [Bool.and_eq_false_iff, decide_eq_false_iff_not, decide_eq_false_iff_not] at hb
    rcases hb with h | h
    · exact .inr fun z => h ((Fm.lawShort_iff ok).mpr z)
    · exact .inl (by omega)
theorem turns_from {h most : Int} (h1 : 1 ≤ h) (h2 : h ≤ most) : ((turnsTo most).filter fun t => decide (h ≤ t)) = (List.range (most + 1 - h).toNat).map fun i : Nat => h + (i : Int) := by
  refine Fm.sorted_unique ?_ ?_ fun x => ?_
  · refine List.Pairwise.filter _ ?_
    unfold turnsTo
    rw [List.pairwise_map]
    exact List.pairwise_lt_range.imp fun h => by omega
  · rw [List.pairwise_map]
    exact List.pairwise_lt_range.imp fun h => by omega
  · unfold turnsTo
    simp only [List.mem_filter, List.mem_map, List.mem_range, decide_eq_true_eq]
    constructor
    · rintro ⟨⟨i, hi, rfl⟩, hx⟩
      exact ⟨((i : Int) + 1 - h).toNat, by omega, by omega⟩
    · rintro ⟨i, hi, rfl⟩
      exact ⟨⟨(h + (i : Int) - 1).toNat, by omega, by omega⟩, by omega⟩
theorem rd_law_turns_right (p : Pm) : Keeps (t_law_turns_right p) ["_law_told", "_law_found", "_law_most"] (sp_law_turns_right p) := fun vs H Q E ⟨R, ⟨u, v, found, most, ev, hv, hf, hm, eR⟩, hq⟩ => by
  subst ev; subst eR
  refine q_when (et_test (ev_eqL (dat_int p.K) rint_lst (evr_ls rint_lst hv rfl) evr_nil (fun _ _ => trivial) (fun _ _ => trivial))) (fun hb H1 e1 => ?_) fun hb H1 e1 => ?_
  · have hb' := of_decide_eq_true hb
    rcases hf with ⟨_, hu⟩ | ⟨h, a, x, y, _, _, h1, h2, h3⟩
    · exact s_ret (v := .bl true) (ev_isN (ev_var rfl) (decide_eq_true hu)) fun H2 e2 => hq _ _ (e1.trans e2) rfl
    · exfalso
      have : h ∈ found := by
        rw [h3]
        refine List.mem_filter.mpr ⟨?_, decide_eq_true (Int.le_refl _)⟩
        unfold turnsTo
        exact List.mem_map.mpr ⟨(h - 1).toNat, List.mem_range.mpr (by omega), by omega⟩
      rw [hb'] at this; cases this
  · rcases hf with ⟨h0, _⟩ | ⟨h, a, x, y, hu, ha, h1, h2, h3⟩
    · exact absurd h0 (of_decide_eq_false hb)
    · subst hu
      have hv1 := lsAt_ex rint_lst hv e1
      have ef : found = (List.range (most + 1 - h).toNat).map fun i : Nat => h + (i : Int) := by rw [h3, turns_from h1 h2]
      have hpos : 0 < (most + 1 - h).toNat := by omega
      have f0 : found[0]? = some h := by
        rw [ef, List.getElem?_map, List.getElem?_range hpos]
        simp
      obtain ⟨q, xs, eq, hq2, hx⟩ := id hv1
      have hxv := are_int hx
      have ix0 : ∀ {H'}, Ex H1 H' → Ev (tOp (rIxL p.K) (tVar 1) (tC (.int 0))) (start ["_law_told", "_law_found", "_law_most"] [.ref a, v, .int most]) H' (.int h) := fun e =>
        ev_op (x := .ref q) (by rw [← eq]; exact ev_var rfl) ev_c (rv_ixL (sq_of (e _ _ hq2)) (atI_nat (j := 0) (by rw [hxv, List.getElem?_map, f0]; rfl)))
      have rng : EvR (tLstRg (tRg2 (tOp (rIxL p.K) (tVar 1) (tC (.int 0))) (tOp rAddI (tVar 2) (tC (.int 1))))) (start ["_law_told", "_law_found", "_law_most"] [.ref a, v, .int most]) H1 (NewL RInt found) := fun H2 e2 Q' q' =>
        (ix0 e2) H2 (Ex.refl H2) _ fun H3 e3 => (ev_op (r := rAddI) (ta := tVar 2) (tb := tC (.int 1)) (x := .int most) (σ := start ["_law_told", "_law_found", "_law_most"] [.ref a, v, .int most]) (ev_var rfl) ev_c rv_I0) H3 (Ex.refl H3) _ fun H4 e4 => ⟨h, most + 1, rfl, rfl, RgOk.of_le (by omega) (by omega) (by omega) (by omega), fun l hl => q' _ _ ((e3.trans e4).trans (Ex.new hl)) ⟨l, _, rfl, upd_same, by
          have : rgV h (most + 1) = found.map V.int := by rw [ef, List.map_map]; rfl
          rw [this]; exact int_are _⟩⟩
      exact s_ret (v := .bl true) (ev_is (ev_andV (ev_notN (ev_var (v := .ref a) rfl) (b := true) rfl) fun _ => ev_andV (ev_op (ev_ixT (i := 0) (ev_var rfl) (e1 _ _ ha) rfl) (ix0 (Ex.refl _)) (rv_eq rfl)) fun _ => ev_eqL (dat_int p.K) rint_lst (evr_ls rint_lst hv1 rfl) rng (fun _ _ => trivial) (fun _ _ => trivial)) (by simp)) fun H2 e2 => hq _ _ (e1.trans e2) rfl
theorem rd_law_numbers (p : Pm) : Keeps (t_law_numbers p) ["_law_rows", "_law_failings", "_law_row", "_law_place", "_law_step", "_law_most", "_law_found", "_law_turns", "_law_other"] (sp_law_numbers p) := fun vs H Q E ⟨R, ⟨v, rs, k, y, r, pl, st, most, mv, ev, hv, hl, ok, hy, hk, hm, hmv, hok, eR⟩, hq⟩ => by
  subst ev; subst eR
  refine q_new fun D hD => ?_
  have e1 : Ex H (upd H D (.lst [])) := Ex.new hD
  have hD1 : (upd H D (.lst []) : Hp) D = some (.lst []) := upd_same
  have hv1 := lsAt_ex rrow_lst hv e1
  have hy1 := rrow_lst.l _ _ _ _ e1 hy
  have ne : ∀ a, v = .ref a → a ≠ D := fun a ea => by
    obtain ⟨b, xs, eb, hb, _⟩ := hv
    rw [ea] at eb; cases eb
    exact ne_of_none hb hD
  refine q_forR2 (lo := 1) (n := most + 1) (ea_cons ev_c (ea_cons (ev_op (ev_var rfl) ev_c rv_I0) ea_nil)) ⟨by decide, by decide, by omega, by omega⟩ (fun i σ H' => ∃ y7 y8, σ = [some v, some (.int k), some y, some (.int pl), some (.int st), some (.int most), some (.ref D), y7, y8] ∧ ExB D (upd H D (.lst [])) H' ∧ AccAt RInt D (((List.range i).map fun i : Nat => (i : Int) + 1).filter fun t => (Fm.lawShort (rs ++ [mv t]) k).isEmpty) H')
    (fun H1 e => ⟨_, _, rfl, ExB.of e, ⟨[], e _ _ hD1, .nil⟩⟩) (fun i σ H' hi ⟨y7, y8, es, eB, A⟩ => ?_) (fun σ H' ⟨y7, y8, es, eB, A⟩ => ?_)
  · subst es
    have hv' := lsAt_b rrow_lst hv1 hD1 ne eB
    have hy' : RRow y r H' := rrow_lst.b hD1 eB hy1
    have t1 : (1 : Int) + (i : Int) ≤ most := by omega
    have hrow : EvR (tOp (rCatA p.K) (tOp (rCatA p.K) (tSl (rSlA p.K) (tVar 2) tNoPart (tPart (tVar 3))) (tTup (tCons (tOp rAddI (tOp (rIxT p.K) (tVar 2) (tVar 3)) (tOp rMulW (tVar 4) (tVar 7))) tNil))) (tSl (rSlA p.K) (tVar 2) (tPart (tOp rAddI (tVar 3) (tC (.int 1)))) tNoPart))
        [some v, some (.int k), some y, some (.int pl), some (.int st), some (.int most), some (.ref D), some (.int (1 + (i : Int))), y8] H' (fun u => RRow u (mv (1 + (i : Int)))) := by
      obtain ⟨b, rfl, hb⟩ := id hy'
      rcases hmv with ⟨rfl, rfl, rfl⟩ | ⟨rfl, rfl, rfl⟩
      · have := evr_catT (K := p.K) (ta := tOp (rCatA p.K) (tSl (rSlA p.K) (tVar 2) tNoPart (tPart (tVar 3))) (tTup (tCons (tOp rAddI (tOp (rIxT p.K) (tVar 2) (tVar 3)) (tOp rMulW (tVar 4) (tVar 7))) tNil))) (tb := tSl (rSlA p.K) (tVar 2) (tPart (tOp rAddI (tVar 3) (tC (.int 1)))) tNoPart)
          (σ := [some v, some (.int k), some (.ref b), some (.int 2), some (.int 1), some (.int most), some (.ref D), some (.int (1 + (i : Int))), y8]) (H := H')
          (xs := [.str r.n, .int r.f] ++ [.int (r.l + 1 * (1 + (i : Int)))]) (ys := [.int r.c, .int r.r]) (evr_catT (xs := [.str r.n, .int r.f]) (ys := [.int (r.l + 1 * (1 + (i : Int)))]) (evr_slT (xs := rowV r) (lo := none) (hi := some 2) (evr_var rfl (tupV_lasts _) hy') (part_none (tz := ())) (fun _ _ Q q => ⟨.int 2, rfl, 2, rfl, q⟩) (by show ¬ (0 = 0 ∧ 2 = 5); decide) rfl) (evr_tupA (ea_cons (ev_op (ev_op (ev_var rfl) (ev_var rfl) (rv_ixT (st_of hb) (atI_nat (j := 2) rfl))) (ev_op (ev_var rfl) (ev_var rfl) (rv_mul ⟨by decide, by decide⟩ ⟨by omega, by omega⟩)) rv_I0) ea_nil) (by simp)) (by simp) (by simp) (by simp))
          (evr_slT (xs := rowV r) (lo := some 3) (hi := none) (evr_var rfl (tupV_lasts _) hy') (fun _ _ Q q => ⟨.int 2, rfl, 2, 1, rfl, rfl, 3, rfl, q⟩) (part_none (tz := ())) (by show ¬ (3 = 0 ∧ 5 = 5); decide) rfl) (by simp) (by simp) (by simp)
        refine this.imp fun u H2 _ hu => ?_
        rw [Int.one_mul] at hu
        exact hu
      · have := evr_catT (K := p.K) (ta := tOp (rCatA p.K) (tSl (rSlA p.K) (tVar 2) tNoPart (tPart (tVar 3))) (tTup (tCons (tOp rAddI (tOp (rIxT p.K) (tVar 2) (tVar 3)) (tOp rMulW (tVar 4) (tVar 7))) tNil))) (tb := tSl (rSlA p.K) (tVar 2) (tPart (tOp rAddI (tVar 3) (tC (.int 1)))) tNoPart)
          (σ := [some v, some (.int k), some (.ref b), some (.int 1), some (.int (-1)), some (.int most), some (.ref D), some (.int (1 + (i : Int))), y8]) (H := H')
          (xs := [.str r.n] ++ [.int (r.f + -1 * (1 + (i : Int)))]) (ys := [.int r.l, .int r.c, .int r.r]) (evr_catT (xs := [.str r.n]) (ys := [.int (r.f + -1 * (1 + (i : Int)))]) (evr_slT (xs := rowV r) (lo := none) (hi := some 1) (evr_var rfl (tupV_lasts _) hy') (part_none (tz := ())) (fun _ _ Q q => ⟨.int 1, rfl, 1, rfl, q⟩) (by show ¬ (0 = 0 ∧ 1 = 5); decide) rfl) (evr_tupA (ea_cons (ev_op (ev_op (ev_var rfl) (ev_var rfl) (rv_ixT (st_of hb) (atI_nat (j := 1) rfl))) (ev_op (ev_var rfl) (ev_var rfl) (rv_mul ⟨by decide, by decide⟩ ⟨by omega, by omega⟩)) rv_I0) ea_nil) (by simp)) (by simp) (by simp) (by simp))
          (evr_slT (xs := rowV r) (lo := some 2) (hi := none) (evr_var rfl (tupV_lasts _) hy') (fun _ _ Q q => ⟨.int 1, rfl, 1, 1, rfl, rfl, 2, rfl, q⟩) (part_none (tz := ())) (by show ¬ (2 = 0 ∧ 5 = 5); decide) rfl) (by simp) (by simp) (by simp)
        refine this.imp fun u H2 _ hu => ?_
        have e : r.f + -1 * (1 + (i : Int)) = r.f - (1 + (i : Int)) := by omega
        rw [e] at hu
        exact hu
    refine q_asgR hrow fun u H2 e2 hu => ?_
    have okA : Fm.Oks (rs ++ [mv (1 + (i : Int))]) := fun q hq' => by
      rcases List.mem_append.mp hq' with h | h
      · exact ok q h
      · rw [List.mem_singleton.mp h]; exact hok _ (by omega) t1
    have hv2 := lsAt_ex rrow_lst hv' e2
    have A2 := A.ex rint_lst e2
    have lA : (rs ++ [mv (1 + (i : Int))]).length ≤ 100 := by rw [List.length_append, List.length_singleton]; omega
    have ecast : (i : Int) + 1 = 1 + (i : Int) := Int.add_comm _ _
    have erange : ((List.range (i + 1)).map fun i : Nat => (i : Int) + 1) = ((List.range i).map fun i : Nat => (i : Int) + 1) ++ [1 + (i : Int)] := by rw [List.range_succ, List.map_append, List.map_singleton, ecast]
    refine s_when (et_test (ev_isKept (rs := rs ++ [mv (1 + (i : Int))]) (evr_cat (evr_ls rrow_lst hv2 rfl) (evr_lst1 (evr_var rfl (lasts_of rrow_lst.l) hu) rrow_lst) rrow_lst (by rw [List.length_singleton]; omega)) (ev_var rfl) lA okA hk)) (fun hb H3 e3 => ?_) fun hb H3 e3 => ⟨_, _, rfl, (eB.trans (ExB.of e2)).trans (ExB.of e3), ?_⟩
    · refine acc_app rint_lst (A2.ex rint_lst e3) (i := 6) (b := 1 + (i : Int)) rfl (evr_ev (ev_var rfl)) ?_ fun H4 e4 A4 => ⟨_, _, rfl, ((eB.trans (ExB.of e2)).trans (ExB.of e3)).trans e4, ?_⟩
      · have := List.length_filter_le (fun t => (Fm.lawShort (rs ++ [mv t]) k).isEmpty) ((List.range i).map fun i : Nat => (i : Int) + 1)
        rw [List.length_map, List.length_range] at this; omega
      · rw [erange, List.filter_append, List.filter_cons_of_pos (by rw [of_decide_eq_true hb]; rfl)]
        exact A4
    · rw [erange, List.filter_append, List.filter_cons_of_neg (by rw [List.isEmpty_iff]; exact of_decide_eq_false hb)]
      rw [show List.filter (fun t => (Fm.lawShort (rs ++ [mv t]) k).isEmpty) ([] : List Int) = [] from rfl, List.append_nil]
      exact A2.ex rint_lst e3
  · subst es
    obtain ⟨ys, h1, h2⟩ := A
    have eH : Ex H H' := ExB.back e1 eB hD
    have en : (most + 1 - 1).toNat = most.toNat := by omega
    rw [en] at h2
    exact s_ret (ev_var rfl) fun H4 e4 => hq _ H4 (eH.trans e4) ⟨D, ys, rfl, e4 _ _ h1, h2.mono rint_lasts e4⟩
end Fs

set_option Elab.async false
set_option linter.all false
set_option maxRecDepth 100000
set_option maxHeartbeats 4000000
/-! READINGS -/
namespace Fs
open PySem PySem.Spec PyProof.Rows L2 Evl
/-! ### drawing: expressions of ints that may draw from the box at q -/
def RI (a b : Int) : V → Prop := fun v => ∃ i, v = .int i ∧ a ≤ i ∧ i ≤ b
def Dr (te : TE) (σ : L2.St) (q : Addr) (n n' : Nat) (R : V → Prop) : Prop := ∀ H, Box H q n → ∀ Q : VK, (∀ v H', ExB q H H' → Box H' q n' → R v → Q v H') → te σ H Q
def DrA (tl : TA) (σ : L2.St) (q : Addr) (n n' : Nat) (P : List V → Prop) : Prop := ∀ H, Box H q n → ∀ Q : List V → Hp → Prop, (∀ vs H', ExB q H H' → Box H' q n' → P vs → Q vs H') → tl σ H Q
theorem Box.lst {H : Hp} {q : Addr} {n : Nat} (b : Box H q n) : ∃ xs, H q = some (.lst xs) := by obtain ⟨x, y, z, h, _⟩ := b; exact ⟨_, h⟩
theorem Box.ex {H H' : Hp} {q : Addr} {n : Nat} (b : Box H q n) (e : Ex H H') : Box H' q n := by obtain ⟨x, y, z, h, r⟩ := b; exact ⟨x, y, z, e _ _ h, r⟩
theorem Box.le {H : Hp} {q : Addr} {n m : Nat} (b : Box H q n) (h : m ≤ n) : Box H q m := by obtain ⟨x, y, z, h1, h2, h3, h4, h5⟩ := b; exact ⟨x, y, z, h1, h2, h3, h4, by omega⟩
section
variable {p : Pm} {σ : L2.St} {q : Addr} {n n1 n2 : Nat} {te ta tb : TE} {tl : TA} {R R1 R2 : V → Prop} {v : V}
theorem dr_c : Dr (tC v) σ q n n (fun u => u = v) := fun H b Q k => k v H (ExB.refl _ _) b rfl
theorem dr_var {i : Nat} (h : σ[i]? = some (some v)) : Dr (tVar i) σ q n n (fun u => u = v) := fun H b Q k => ⟨v, h, k v H (ExB.refl _ _) b rfl⟩
theorem Dr.imp (h : Dr te σ q n n1 R) (k : ∀ v, R v → R1 v) : Dr te σ q n n1 R1 := fun H b Q c => h H b Q fun v H' e b' r => c v H' e b' (k v r)
theorem dr_op {f : Int → Int → Int} (ha : Dr ta σ q n n1 R1) (hb : Dr tb σ q n1 n2 R2) (i1 : ∀ v, R1 v → ∃ i, v = .int i) (i2 : ∀ v, R2 v → ∃ i, v = .int i) : Dr (tOp (rI0 fun i j => .int (f i j)) ta tb) σ q n n2 (fun v => ∃ i j, R1 (.int i) ∧ R2 (.int j) ∧ v = .int (f i j)) := fun H b Q k =>
  ha H b _ fun x H1 e1 b1 r1 => hb H1 b1 _ fun y H2 e2 b2 r2 => by
    obtain ⟨i, rfl⟩ := i1 x r1
    obtain ⟨j, rfl⟩ := i2 y r2
    exact ⟨i, j, rfl, rfl, k _ H2 (e1.trans e2) b2 ⟨i, j, r1, r2, rfl⟩⟩
theorem dr_take {M : Int} (h0 : σ[0]? = some (some (.ref q))) (h : Dr te σ q n (n1 + 1) (RI 1 M)) (hM : M ≤ 1000) : Dr (tCall (sp_law_take p) [] E0 (tCons (tVar 0) (tCons te tNil))) σ q n n1 (RI 0 (M - 1)) := fun H b Q k =>
  ⟨.ref q, h0, h H b _ fun v H1 e1 b1 ⟨i, ev, i1, i2⟩ => ⟨q, i, n1, by rw [ev]; rfl, b1, i1, by omega, fun w H2 e2 b2 w0 w1 => k _ H2 (e1.trans e2) b2 ⟨w, rfl, w0, by omega⟩⟩⟩
theorem dra_nil : DrA tNil σ q n n (fun vs => vs = []) := fun H b Q k => k [] H (ExB.refl _ _) b rfl
theorem dra_cons {P : List V → Prop} (h : Dr te σ q n n1 R) (hr : DrA tl σ q n1 n2 P) : DrA (tCons te tl) σ q n n2 (fun vs => ∃ x xs, vs = x :: xs ∧ R x ∧ P xs) := fun H b Q k =>
  h H b _ fun x H1 e1 b1 r1 => hr H1 b1 _ fun xs H2 e2 b2 r2 => k _ H2 (e1.trans e2) b2 ⟨x, xs, rfl, r1, r2⟩
/-- [a, b, ..][i] -/
theorem dr_ixl {K : PySem.W.Frag} {P : List V → Prop} {a b : Int} (h : DrA tl σ q n n1 P) (hi : Dr te σ q n1 n2 (RI a b)) (hl : ∀ vs, P vs → vs.length ≤ 100000) (k : ∀ vs i, P vs → a ≤ i → i ≤ b → ∃ v, atI vs i = some v ∧ R v) : Dr (tOp (rIxL K) (tLst tl) te) σ q n n2 R := fun H bx Q c =>
  h H bx _ fun vs H1 e1 b1 hp => ⟨sz_of (hl vs hp), fun l hl' => by
    have ne : l ≠ q := fun z => by obtain ⟨xs, h⟩ := b1.lst; rw [z, h] at hl'; cases hl'
    refine hi _ (b1.ex (Ex.new hl')) _ fun v H2 e2 b2 ⟨i, ev, i1, i2⟩ => ?_
    obtain ⟨w, hw, rw'⟩ := k vs i hp i1 i2
    exact ⟨l, vs, i, w, rfl, ev, sq_of (e2 _ _ upd_same ne), hw, c w H2 ((e1.trans (ExB.of (Ex.new hl'))).trans e2) b2 rw'⟩⟩
theorem q_dr {D : Ends} {tz : TS} {H : Hp} {i : Nat} (h : Dr te σ q n n1 R) (b : Box H q n) (k : ∀ v H', ExB q H H' → Box H' q n1 → R v → tz D (σ.set i (some v)) H') : tSeq (tAsg te (gName i)) tz D σ H := h H b _ k
theorem RI.int {a b : Int} {v : V} (h : RI a b v) : ∃ i, v = .int i := by obtain ⟨i, e, _⟩ := h; exact ⟨i, e⟩
theorem is_int {i : Int} {v : V} (h : v = .int i) : ∃ i, v = V.int i := ⟨i, h⟩
end
theorem rd_law_drawn_row (p : Pm) : Keeps (t_law_drawn_row p) ["_law_box_here", "_law_name", "_law_turns", "_law_long", "_law_first", "_law_last", "_law_length", "_law_left"] (sp_law_drawn_row p) := fun vs H Q E ⟨q, z, n, t, l, ev, hb, t1, t2, l1, l2, hq⟩ => by
  subst ev
  refine q_dr (n1 := n + 9) (dr_take rfl ((dr_var (v := .int t) rfl).imp fun v e => ⟨t, e, t1, Int.le_refl _⟩) (by omega)) hb fun v1 H1 e1 b1 ⟨f, ef, f0, f1⟩ => ?_
  subst ef
  have hmin : Dr (tCB rMin2 (tCons (tC (.int 199)) (tCons (tOp rAddI (tVar 4) (tCall (sp_law_take p) [] E0 (tCons (tVar 0) (tCons (tOp (rIxL p.K) (tLst (tCons (tC (.int 12)) (tCons (tVar 2) (tCons (tOp rMulW (tC (.int 2)) (tVar 2)) tNil)))) (tCall (sp_law_take p) [] E0 (tCons (tVar 0) (tCons (tC (.int 3)) tNil)))) tNil)))) tNil)))
      ((start ["_law_box_here", "_law_name", "_law_turns", "_law_long", "_law_first", "_law_last", "_law_length", "_law_left"] [.ref q, .str z, .int t, .int l]).set 4 (some (.int f))) q (n + 9) (n + 7) (RI f 199) := fun H bx Q c => by
    have hin : Dr (tOp (rIxL p.K) (tLst (tCons (tC (.int 12)) (tCons (tVar 2) (tCons (tOp rMulW (tC (.int 2)) (tVar 2)) tNil)))) (tCall (sp_law_take p) [] E0 (tCons (tVar 0) (tCons (tC (.int 3)) tNil)))) ((start ["_law_box_here", "_law_name", "_law_turns", "_law_long", "_law_first", "_law_last", "_law_length", "_law_left"] [.ref q, .str z, .int t, .int l]).set 4 (some (.int f))) q (n + 9) (n + 8) (RI 1 300) :=
      dr_ixl (P := fun vs => vs = [.int 12, .int t, .int (2 * t)]) (fun H b Q k => ⟨.int t, rfl, .int t, rfl, 2, t, rfl, rfl, mul_small (sm ⟨by decide, by decide⟩) (sm ⟨by omega, by omega⟩), k _ H (ExB.refl _ _) b rfl⟩) (dr_take (n1 := n + 8) rfl (dr_c.imp fun v e => ⟨3, e, by decide, Int.le_refl _⟩) (by decide)) (fun vs e => by rw [e]; show 3 ≤ 100000; decide) fun vs i e i0 i1 => by
        rw [e]
        have : i = 0 ∨ i = 1 ∨ i = 2 := by omega
        rcases this with rfl | rfl | rfl
        · exact ⟨.int 12, atI_nat (j := 0) rfl, 12, rfl, by omega, by omega⟩
        · exact ⟨.int t, atI_nat (j := 1) rfl, t, rfl, by omega, by omega⟩
        · exact ⟨.int (2 * t), atI_nat (j := 2) rfl, 2 * t, rfl, by omega, by omega⟩
    refine (dr_op (f := fun i j => i + j) (ta := tVar 4) (dr_var (v := .int f) rfl) (dr_take (p := p) (n1 := n + 7) rfl hin (by decide)) (fun v h => is_int h) fun v h => h.int) H bx _ fun v H2 e2 b2 ⟨i, j, hi, ⟨j', ej, j0, j1⟩, ev⟩ => ⟨199, i + j, by rw [ev], ?_⟩
    cases hi; cases ej
    refine c _ H2 e2 b2 ⟨if f + j < 199 then f + j else 199, rfl, by split <;> omega, by split <;> omega⟩
  refine q_dr hmin b1 fun v2 H2 e2 b2 ⟨la, ela, la0, la1⟩ => ?_
  subst ela
  refine q_dr (n1 := n + 6) (dr_op (f := fun i j => i + j) (ta := tC (.int 1)) dr_c (dr_take (p := p) (n1 := n + 6) rfl ((dr_var (v := .int l) rfl).imp fun v e => ⟨l, e, l1, Int.le_refl _⟩) (by omega)) (fun v h => is_int h) fun v h => h.int) b2 fun v3 H3 e3 b3 ⟨i, j, hi, ⟨j', ej, j0, j1⟩, ev3⟩ => ?_
  cases hi; cases ej; subst ev3
  generalize hc : (1 : Int) + j = c
  have c1 : 1 ≤ c := by omega
  have c2 : c ≤ 12 := by omega
  have hleft : Dr (tOp (rIxL p.K) (tLst (tCons (tVar 6) (tCons (tVar 6) (tCons (tVar 6) (tCons (tCall (sp_law_take p) [] E0 (tCons (tVar 0) (tCons (tOp rAddI (tVar 6) (tC (.int 1))) tNil))) tNil))))) (tCall (sp_law_take p) [] E0 (tCons (tVar 0) (tCons (tC (.int 4)) tNil))))
      [some (.ref q), some (.str z), some (.int t), some (.int l), some (.int f), some (.int la), some (.int c), none] q (n + 6) (n + 4) (RI 0 c) :=
    dr_ixl (n1 := n + 5) (a := 0) (b := 3) (P := fun vs => ∃ d, vs = [.int c, .int c, .int c, .int d] ∧ 0 ≤ d ∧ d ≤ c) (fun H b Q k => ⟨.int c, rfl, .int c, rfl, .int c, rfl,
      (dr_take (p := p) (n1 := n + 5) (te := tOp rAddI (tVar 6) (tC (.int 1))) (σ := [some (.ref q), some (.str z), some (.int t), some (.int l), some (.int f), some (.int la), some (.int c), none]) (M := c + 1) rfl ((dr_op (f := fun i j => i + j) (ta := tVar 6) (tb := tC (.int 1)) (dr_var (v := .int c) rfl) dr_c (fun v h => is_int h) fun v h => is_int h).imp fun v ⟨i, j, hi, hj, e⟩ => by cases hi; cases hj; exact ⟨c + 1, e, by omega, by omega⟩) (by omega)) H b _ fun v H' e b' ⟨d, ed, d0, d1⟩ => k _ H' e b' ⟨d, by rw [ed], d0, by omega⟩⟩)
      (dr_take (p := p) (n1 := n + 4) (M := 4) rfl (dr_c.imp fun v e => ⟨4, e, by decide, by decide⟩) (by decide)) (fun vs ⟨d, e, _⟩ => by rw [e]; show 4 ≤ 100000; decide) fun vs i ⟨d, e, d0, d1⟩ i0 i1 => by
        rw [e]
        have : i = 0 ∨ i = 1 ∨ i = 2 ∨ i = 3 := by omega
        rcases this with rfl | rfl | rfl | rfl
        · exact ⟨.int c, atI_nat (j := 0) rfl, c, rfl, by omega, by omega⟩
        · exact ⟨.int c, atI_nat (j := 1) rfl, c, rfl, by omega, by omega⟩
        · exact ⟨.int c, atI_nat (j := 2) rfl, c, rfl, by omega, by omega⟩
        · exact ⟨.int d, atI_nat (j := 3) rfl, d, rfl, d0, d1⟩
  refine q_dr hleft b3 fun v4 H4 e4 b4 ⟨r, er, r0, r1⟩ => ?_
  subst er
  refine s_retR (R := fun u => RRow u ⟨z, f, la, c, r⟩) (evr_tupA (ea_cons (ev_var rfl) (ea_cons (ev_var rfl) (ea_cons (ev_var rfl) (ea_cons (ev_var rfl) (ea_cons (ev_var rfl) ea_nil))))) (by show 5 ≤ 100000; decide)) fun u H5 e5 hu => hq u H5 ⟨z, f, la, c, r⟩ ((((e1.trans e2).trans e3).trans e4).trans (ExB.of e5)) ((b4.ex e5).le (by omega)) hu ⟨f0, la0, la1, c1, c2, r0, r1⟩ rfl
end Fs

set_option Elab.async false
set_option linter.all false
set_option maxRecDepth 100000
set_option maxHeartbeats 4000000
/-! READINGS -/
namespace Fs
open PySem PySem.Spec PyProof.Rows L2 Evl
theorem accAt_b {β : Type} {RB : RL β} (l : Lst RB) {D q : Addr} {bs : List β} {H H' : Hp} {ys : List V} (A : AccAt RB D bs H) (hq : H q = some (.lst ys)) (ne : D ≠ q) (e : ExB q H H') : AccAt RB D bs H' := by
  obtain ⟨zs, h1, h2⟩ := A
  exact ⟨zs, e _ _ h1 ne, Paired.mapP h2 fun v b r => l.b hq e r⟩
theorem Box.b {H H' : Hp} {q D : Addr} {n : Nat} (b : Box H q n) (ne : q ≠ D) (e : ExB D H H') : Box H' q n := by obtain ⟨x, y, z, h, r⟩ := b; exact ⟨x, y, z, e _ _ h ne, r⟩
/-- what stands behind i names -/
structure PInv (zs : List Str) (k : Int) (i : Nat) (rs qs : List Row) : Prop where
  ok : Fm.Oks rs
  nd : (rs.map (·.n)).Nodup
  le : rs.length ≤ i
  sub : ∀ r ∈ rs, r.n ∈ zs.take i
  kept : Fm.Kept rs k
  q : ∀ r ∈ qs, Fm.Ok r ∧ r.n ∈ zs.take i ∧ r.n ∉ rs.map (·.n) ∧ ¬ Fm.Kept (rs ++ [r]) k
  ql : qs.length ≤ i
theorem take_new {zs : List Str} (nd : zs.Nodup) {i : Nat} {z : Str} (h : zs[i]? = some z) : z ∉ zs.take i := fun hm => by
  have e5 : zs = zs.take i ++ zs.drop i := (List.take_append_drop i zs).symm
  rw [e5, List.nodup_append] at nd
  exact nd.2.2 _ hm _ (List.mem_of_getElem? (i := 0) (by rw [List.getElem?_drop]; exact h)) rfl
theorem take_mono {zs : List Str} {i : Nat} {z : Str} (h : z ∈ zs.take i) : z ∈ zs.take (i + 1) := (List.take_sublist_take_left (Nat.le_succ i)).subset h
theorem take_at {zs : List Str} {i : Nat} {z : Str} (h : zs[i]? = some z) : z ∈ zs.take (i + 1) := by
  rw [List.take_add_one, h]; simp
theorem PInv.yes {zs : List Str} {k : Int} {i : Nat} {rs qs : List Row} {r : Row} (h : PInv zs k i rs qs) (nd : zs.Nodup) (hk : 0 ≤ k) (hz : zs[i]? = some r.n) (ok : Fm.Ok r) (hkept : Fm.Kept (rs ++ [r]) k) : PInv zs k (i + 1) (rs ++ [r]) qs := by
  have hni := take_new nd hz
  refine ⟨fun q hq => ?_, ?_, by rw [List.length_append, List.length_singleton]; have := h.le; omega, fun q hq => ?_, hkept, fun q hq => ?_, by have := h.ql; omega⟩
  · rcases List.mem_append.mp hq with a | a
    · exact h.ok q a
    · rw [List.mem_singleton.mp a]; exact ok
  · rw [List.map_append, List.nodup_append]
    refine ⟨h.nd, by simp, fun a ha b hb e => ?_⟩
    obtain ⟨q, hq, rfl⟩ := List.mem_map.mp ha
    have : b = r.n := by simpa using hb
    exact hni (this ▸ e ▸ h.sub q hq)
  · rcases List.mem_append.mp hq with a | a
    · exact take_mono (h.sub q a)
    · rw [List.mem_singleton.mp a]; exact take_at hz
  · obtain ⟨q1, q2, q3, q4⟩ := h.q q hq
    refine ⟨q1, take_mono q2, fun hm => ?_, fun hK => q4 ?_⟩
    · rw [List.map_append] at hm
      rcases List.mem_append.mp hm with a | a
      · exact q3 a
      · have : q.n = r.n := by simpa using a
        exact hni (this ▸ q2)
    · exact Fm.Kept.less hK hk fun x hx => by rw [List.mem_singleton.mp hx]; exact ok
theorem PInv.no {zs : List Str} {k : Int} {i : Nat} {rs qs : List Row} {r : Row} (h : PInv zs k i rs qs) (nd : zs.Nodup) (hz : zs[i]? = some r.n) (ok : Fm.Ok r) (hkept : ¬ Fm.Kept (rs ++ [r]) k) : PInv zs k (i + 1) rs (qs ++ [r]) := by
  have hni := take_new nd hz
  refine ⟨h.ok, h.nd, by have := h.le; omega, fun q hq => take_mono (h.sub q hq), h.kept, fun q hq => ?_, by rw [List.length_append, List.length_singleton]; have := h.ql; omega⟩
  rcases List.mem_append.mp hq with a | a
  · obtain ⟨q1, q2, q3, q4⟩ := h.q q a
    exact ⟨q1, take_mono q2, q3, q4⟩
  · rw [List.mem_singleton.mp a]
    refine ⟨ok, take_at hz, fun hm => ?_, hkept⟩
    obtain ⟨x, hx, e⟩ := List.mem_map.mp hm
    exact hni (e ▸ h.sub x hx)
theorem PInv.prom {zs : List Str} {k : Int} {rs qs : List Row} (h : PInv zs k 7 rs qs) (nm : ∀ z ∈ zs, Nm z) : Prom rs qs k := by
  have sub : ∀ {z}, z ∈ zs.take 7 → Nm z := fun hz => nm _ (take_sub hz)
  refine ⟨⟨h.ok, h.nd, by have := h.le; omega, fun r hr => sub (h.sub r hr)⟩, h.kept, h.le, fun r hr => ?_⟩
  obtain ⟨q1, q2, q3, q4⟩ := h.q r hr
  refine ⟨⟨fun q hq => ?_, ?_, by rw [List.length_append, List.length_singleton]; have := h.le; omega, fun q hq => ?_⟩, q4⟩
  · rcases List.mem_append.mp hq with a | a
    · exact h.ok q a
    · rw [List.mem_singleton.mp a]; exact q1
  · rw [List.map_append, List.nodup_append]
    exact ⟨h.nd, by simp, fun a ha b hb e => by have : b = r.n := by simpa using hb
                                                exact q3 (this ▸ e ▸ ha)⟩
  · rcases List.mem_append.mp hq with a | a
    · exact sub (h.sub q a)
    · rw [List.mem_singleton.mp a]; exact sub q2
theorem rd_law_promised (p : Pm) : Keeps (t_law_promised p) ["_law_box_here", "_law_names_here", "_law_failings", "_law_turns", "_law_long", "_law_rows", "_law_refused", "_law_name", "_law_row"] (sp_law_promised p) := fun vs H Q E ⟨q, v, k, zs, n, ev, hb, hv, hlen, hnd, hnm, k0, k1, hq⟩ => by
  subst ev
  obtain ⟨a, xs, eva, ha, hx⟩ := hv
  subst eva
  have haq : a ≠ q := fun z => by
    obtain ⟨x, y, w, h, _⟩ := hb
    rw [z, h] at ha
    have e := HO.lst.inj (Option.some.inj ha)
    have := hx.length
    rw [← e, hlen] at this
    cases this
  have d1 : Dr (tOp (rIxL p.K) (tLst (tCons (tC (.int 8)) (tCons (tC (.int 20)) (tCons (tC (.int 40)) (tCons (tC (.int 150)) tNil))))) (tCall (sp_law_take p) [] E0 (tCons (tVar 0) (tCons (tC (.int 4)) tNil)))) [some (.ref q), some (.ref a), some (.int k), none, none, none, none, none, none] q (n + 100) (n + 99) (RI 1 150) :=
    dr_ixl (P := fun vs => vs = [.int 8, .int 20, .int 40, .int 150]) (fun H b Q k => k _ H (ExB.refl _ _) b rfl) (dr_take (p := p) (n1 := n + 99) (M := 4) rfl (dr_c.imp fun v e => ⟨4, e, by decide, by decide⟩) (by decide)) (fun vs e => by rw [e]; show 4 ≤ 100000; decide) fun vs i e i0 i1 => by
      rw [e]
      have : i = 0 ∨ i = 1 ∨ i = 2 ∨ i = 3 := by omega
      rcases this with rfl | rfl | rfl | rfl
      · exact ⟨.int 8, atI_nat (j := 0) rfl, 8, rfl, by decide, by decide⟩
      · exact ⟨.int 20, atI_nat (j := 1) rfl, 20, rfl, by decide, by decide⟩
      · exact ⟨.int 40, atI_nat (j := 2) rfl, 40, rfl, by decide, by decide⟩
      · exact ⟨.int 150, atI_nat (j := 3) rfl, 150, rfl, by decide, by decide⟩
  refine q_dr d1 hb fun v1 H1 e1 b1 ⟨t, et, t1, t2⟩ => ?_
  subst et
  have d2 : Dr (tOp (rIxL p.K) (tLst (tCons (tC (.int 2)) (tCons (tC (.int 4)) (tCons (tC (.int 12)) tNil)))) (tCall (sp_law_take p) [] E0 (tCons (tVar 0) (tCons (tC (.int 3)) tNil)))) [some (.ref q), some (.ref a), some (.int k), some (.int t), none, none, none, none, none] q (n + 99) (n + 98) (RI 1 12) :=
    dr_ixl (P := fun vs => vs = [.int 2, .int 4, .int 12]) (fun H b Q k => k _ H (ExB.refl _ _) b rfl) (dr_take (p := p) (n1 := n + 98) (M := 3) rfl (dr_c.imp fun v e => ⟨3, e, by decide, by decide⟩) (by decide)) (fun vs e => by rw [e]; show 3 ≤ 100000; decide) fun vs i e i0 i1 => by
      rw [e]
      have : i = 0 ∨ i = 1 ∨ i = 2 := by omega
      rcases this with rfl | rfl | rfl
      · exact ⟨.int 2, atI_nat (j := 0) rfl, 2, rfl, by decide, by decide⟩
      · exact ⟨.int 4, atI_nat (j := 1) rfl, 4, rfl, by decide, by decide⟩
      · exact ⟨.int 12, atI_nat (j := 2) rfl, 12, rfl, by decide, by decide⟩
  refine q_dr d2 b1 fun v2 H2 e2 b2 ⟨l, el, l1, l2⟩ => ?_
  subst el
  refine q_new fun D1 hD1 => q_new fun D2 hD2 => ?_
  generalize hH3 : (upd (upd H2 D1 (.lst [])) D2 (.lst []) : Hp) = H3
  have n12 : D1 ≠ D2 := fun z => by rw [← z, upd_same] at hD2; cases hD2
  have e23 : Ex H2 H3 := by rw [← hH3]; exact (Ex.new hD1).trans (Ex.new hD2)
  have A1 : AccAt RRow D1 [] H3 := ⟨[], by rw [← hH3, upd_ne n12]; exact upd_same, .nil⟩
  have A2 : AccAt RRow D2 [] H3 := ⟨[], by rw [← hH3]; exact upd_same, .nil⟩
  have b3 := b2.ex e23
  have eq3 := (e1.trans e2).trans (ExB.of e23)
  have ha3 := eq3 _ _ ha haq
  have hD1H : ∀ {o}, H D1 = some o → D1 = q := fun {o} h => by
    by_cases z : D1 = q
    · exact z
    · rw [(e1.trans e2) _ _ h z] at hD1; cases hD1
  have hD2H : ∀ {o}, H D2 = some o → D2 = q := fun {o} h => by
    by_cases z : D2 = q
    · exact z
    · rw [upd_ne n12.symm, (e1.trans e2) _ _ h z] at hD2; cases hD2
  have q1 : q ≠ D1 := fun z => by obtain ⟨ys, h⟩ := b2.lst; rw [z, hD1] at h; cases h
  have q2 : q ≠ D2 := fun z => by obtain ⟨ys, h⟩ := b2.lst; rw [← z, upd_ne q1, h] at hD2; cases hD2
  have a1 : a ≠ D1 := fun z => haq (z.trans (hD1H (z ▸ ha)))
  have a2 : a ≠ D2 := fun z => haq (z.trans (hD2H (z ▸ ha)))
  have hex : ∀ {H'}, (∀ b o, H3 b = some o → b ≠ q → b ≠ D1 → b ≠ D2 → H' b = some o) → ExB q H H' := fun h b o hb' nb => h b o (eq3 b o hb' nb) nb (fun z => nb (z.trans (hD1H (z ▸ hb')))) (fun z => nb (z.trans (hD2H (z ▸ hb'))))
  refine ⟨.ref a, rfl, a, rfl, ⟨xs, sq_of ha3⟩, ?_⟩
  have xl : xs.length = 7 := by rw [hx.length, hlen]
  refine for_list (xs := xs) (D := { nx := tRet (tLst (tCons (tVar 5) (tCons (tVar 6) tNil))) { nx := fun _ H' => Q .non H', rt := Q }, rt := Q })
    (fun i σ H' => ∃ rs qs y7 y8, σ = [some (.ref q), some (.ref a), some (.int k), some (.int t), some (.int l), some (.ref D1), some (.ref D2), y7, y8] ∧ Box H' q (n + 98 - 10 * i) ∧ AccAt RRow D1 rs H' ∧ AccAt RRow D2 qs H' ∧ (∀ b o, H3 b = some o → b ≠ q → b ≠ D1 → b ≠ D2 → H' b = some o) ∧ PInv zs k i rs qs)
    ⟨[], [], _, _, rfl, b3, A1, A2, fun _ _ h _ _ _ => h, ⟨fun r hr => (by cases hr), List.nodup_nil, Nat.le_refl _, fun r hr => (by cases hr), Fm.kept_nil k, fun r hr => (by cases hr), Nat.le_refl _⟩⟩
    (fun i σ H' _ ⟨_, _, _, _, _, _, _, _, h, _⟩ => sq_of (h _ _ ha3 haq a1 a2)) (fun i x σ H' hi ⟨rs, qs, y7, y8, es, bI, B1, B2, h, P⟩ => ?_) (fun σ H' ⟨rs, qs, y7, y8, es, bI, B1, B2, h, P⟩ => ?_)
  · subst es
    obtain ⟨z, hz, ez⟩ := hx.get hi
    have ex : x = .str z := ez
    subst ex
    have hi7 : i < 7 := by have := (List.getElem?_eq_some_iff.mp hi).1; omega
    have bI' : Box H' q ((n + 88 - 10 * i) + 10) := bI.le (by omega)
    refine q_callA (vs := [.ref q, .str z, .int t, .int l]) (ea_cons (ev_var rfl) (ea_cons (ev_var rfl) (ea_cons (ev_var rfl) (ea_cons (ev_var rfl) ea_nil)))) fun H4 e4 => ?_
    refine ⟨q, z, n + 88 - 10 * i, t, l, rfl, bI'.ex e4, t1, t2, l1, l2, fun u H5 r e5 b5 hu ok en => ?_⟩
    obtain ⟨zl, hqz⟩ := (bI.ex e4).lst
    have C1 := accAt_b rrow_lst (B1.ex rrow_lst e4) hqz q1.symm e5
    have C2 := accAt_b rrow_lst (B2.ex rrow_lst e4) hqz q2.symm e5
    have h5 : ∀ b o, H3 b = some o → b ≠ q → b ≠ D1 → b ≠ D2 → H5 b = some o := fun b o hb' n1 n2 n3 => e5 _ _ (e4 _ _ (h b o hb' n1 n2 n3)) n1
    have hz' : zs[i]? = some r.n := by rw [hz, en]
    have okA : Fm.Oks (rs ++ [r]) := fun w hw => by
      rcases List.mem_append.mp hw with c | c
      · exact P.ok w c
      · rw [List.mem_singleton.mp c]; exact ok
    have lA : (rs ++ [r]).length ≤ 100 := by rw [List.length_append, List.length_singleton]; have := P.le; omega
    have hC1 : LsAt RRow (.ref D1) rs H5 := by obtain ⟨ys, g1, g2⟩ := C1; exact ⟨D1, ys, rfl, g1, g2⟩
    refine s_if (et_test (ev_isKept (rs := rs ++ [r]) (evr_cat (evr_ls rrow_lst hC1 rfl) (evr_lst1 (evr_var rfl (lasts_of rrow_lst.l) hu) rrow_lst) rrow_lst (by rw [List.length_singleton]; have := P.le; omega)) (ev_var rfl) lA okA ⟨k0, by omega⟩)) (fun hb6 H6 e6 => ?_) fun hb6 H6 e6 => ?_
    · have hK : Fm.Kept (rs ++ [r]) k := (Fm.lawShort_iff okA).mp (of_decide_eq_true hb6)
      refine acc_app rrow_lst (C1.ex rrow_lst e6) (i := 5) rfl (evr_var (R := fun u => RRow u r) rfl (lasts_of rrow_lst.l) (rrow_lst.l _ _ _ _ e6 hu)) (by have := P.le; omega) fun H7 e7 A7 => ⟨rs ++ [r], qs, _, _, rfl, (((b5.ex e6).b q1 e7).le (by omega)), A7, ?_, fun b o hb' n1 n2 n3 => e7 _ _ (e6 _ _ (h5 b o hb' n1 n2 n3)) n2, P.yes hnd k0 hz' ok hK⟩
      obtain ⟨ys, g1, g2⟩ := C1.ex rrow_lst e6
      exact accAt_b rrow_lst (C2.ex rrow_lst e6) g1 n12.symm e7
    · have hK : ¬ Fm.Kept (rs ++ [r]) k := fun hh => of_decide_eq_false hb6 ((Fm.lawShort_iff okA).mpr hh)
      refine acc_app rrow_lst (C2.ex rrow_lst e6) (i := 6) rfl (evr_var (R := fun u => RRow u r) rfl (lasts_of rrow_lst.l) (rrow_lst.l _ _ _ _ e6 hu)) (by have := P.ql; omega) fun H7 e7 A7 => ⟨rs, qs ++ [r], _, _, rfl, (((b5.ex e6).b q2 e7).le (by omega)), ?_, A7, fun b o hb' n1 n2 n3 => e7 _ _ (e6 _ _ (h5 b o hb' n1 n2 n3)) n3, P.no hnd hz' ok hK⟩
      obtain ⟨ys, g1, g2⟩ := C2.ex rrow_lst e6
      exact accAt_b rrow_lst (C1.ex rrow_lst e6) g1 n12 e7
  · subst es
    rw [xl] at P bI
    have hret : EvR (tLst (tCons (tVar 5) (tCons (tVar 6) tNil))) [some (.ref q), some (.ref a), some (.int k), some (.int t), some (.int l), some (.ref D1), some (.ref D2), y7, y8] H' (fun u H' => ∃ u', u = .ref u' ∧ H' u' = some (.lst [.ref D1, .ref D2])) :=
      fun H4 e4 Q' q' => ⟨.ref D1, rfl, .ref D2, rfl, sz_of (show 2 ≤ 100000 by decide), fun w hw => q' _ _ (Ex.new hw) ⟨w, rfl, upd_same⟩⟩
    refine s_retR (D := { nx := fun _ H' => Q .non H', rt := Q }) hret fun u H4 e4 ⟨u', eu, hu'⟩ => ?_
    subst eu
    obtain ⟨ys, g1, g2⟩ := B1.ex rrow_lst e4
    obtain ⟨ws, g3, g4⟩ := B2.ex rrow_lst e4
    exact hq H4 rs qs u' D1 D2 ((hex h).trans (ExB.of e4)) ((bI.ex e4).le (by omega)) hu' ⟨D1, ys, rfl, g1, g2⟩ ⟨D2, ws, rfl, g3, g4⟩ (P.prom hnm)
end Fs

set_option Elab.async false
set_option linter.all false
set_option maxRecDepth 100000
set_option maxHeartbeats 4000000
/-! READINGS -/
namespace Fs
open PySem PySem.Spec PyProof.Rows L2 Evl
open SX
def wds : List Str := ["a", "ask", "b", "work", "a1", "rest", "ab", "failed", "abc", "done", "ba", "off", "aa", "left"]
def nmB (z : Str) : Bool := match z.cps.toList with
  | [] => false
  | c :: cs => decide (cs.length ≤ 7) && decide (c ∈ letters.cps.toList) && (c :: cs).all fun d => decide (d ∈ letters.cps.toList ++ figures.cps.toList)
theorem nm_of {z : Str} (h : nmB z = true) : Nm z := by
  unfold nmB at h
  cases e : z.cps.toList with
  | nil => rw [e] at h; cases h
  | cons c cs =>
    rw [e] at h
    simp only [Bool.and_eq_true, decide_eq_true_eq] at h
    exact ⟨c, cs, e, h.1.1, h.1.2, fun d hd => of_decide_eq_true (List.all_eq_true.mp h.2 d hd)⟩
def nmw1 (a : Nat) : List Str := (List.range 7).map fun k => wds.getD ((a + 3 * k) % 14) ""
theorem nmw1_ok : ∀ a < 14, (nmw1 a).Nodup ∧ (nmw1 a).all nmB = true := by decide +kernel
theorem lets : letters.cps.toList = (List.range 26).map (97 + ·) := by decide +kernel
theorem let_at {i : Nat} (h : i < 26) : letters.cps.toList[i]? = some (97 + i) := by rw [lets, List.getElem?_map, List.getElem?_range h]; rfl
theorem let_mem {i : Nat} (h : i < 26) : 97 + i ∈ letters.cps.toList := List.mem_of_getElem? (let_at h)
/-- the k-th name on a base -/
def nmw2 (b : List Nat) (a f : Nat) (k : Nat) : List Nat := b.take a ++ ([97 + (f + 7 * k) % 26] ++ (b.drop a ++ [122, 57].take (k % 3)))
theorem nmw2_inj {b : List Nat} {a f j k : Nat} (hj : j < 7) (hk : k < 7) (h : nmw2 b a f j = nmw2 b a f k) : j = k := by
  unfold nmw2 at h
  have h1 := List.append_cancel_left h
  rw [List.singleton_append, List.singleton_append] at h1
  have h2 := (List.cons.inj h1).1
  omega
theorem nmw2_nodup (b : List Nat) (a f : Nat) : ((List.range 7).map fun k => S (nmw2 b a f k)).Nodup := by
  refine List.pairwise_map.mpr (List.Pairwise.imp_of_mem (fun {x y} hx hy h => ?_) (List.pairwise_lt_range (n := 7)))
  intro e
  have := nmw2_inj (List.mem_range.mp hx) (List.mem_range.mp hy) (S_inj e)
  omega
theorem nmw2_nm {b : List Nat} {a f k : Nat} (hb : b.length ≤ 4) (hl : ∀ c ∈ b, c ∈ letters.cps.toList) : Nm (S (nmw2 b a f k)) := by
  have e : (S (nmw2 b a f k)).cps.toList = nmw2 b a f k := rfl
  have hm : (f + 7 * k) % 26 < 26 := Nat.mod_lt _ (by decide)
  have all : ∀ d ∈ nmw2 b a f k, d ∈ letters.cps.toList ++ figures.cps.toList := fun d hd => by
    unfold nmw2 at hd
    rw [List.mem_append, List.mem_append, List.mem_append] at hd
    rcases hd with h | h | h | h
    · exact List.mem_append_left _ (hl d (List.mem_of_mem_take h))
    · rw [List.mem_singleton.mp h]; exact List.mem_append_left _ (let_mem hm)
    · exact List.mem_append_left _ (hl d (List.mem_of_mem_drop h))
    · have := List.mem_of_mem_take h
      have h2 : ∀ d ∈ [122, 57], d ∈ letters.cps.toList ++ figures.cps.toList := by decide +kernel
      exact h2 d this
  have len : (nmw2 b a f k).length ≤ 7 := by
    unfold nmw2
    simp only [List.length_append, List.length_take, List.length_drop, List.length_cons, List.length_nil]
    omega
  cases h : nmw2 b a f k with
  | nil =>
    unfold nmw2 at h
    simp at h
  | cons c cs =>
    have hc : c ∈ letters.cps.toList := by
      unfold nmw2 at h
      cases ht : b.take a with
      | nil =>
        rw [ht] at h
        have := (List.cons.inj h).1
        rw [← this]; exact let_mem hm
      | cons x xs =>
        rw [ht] at h
        have := (List.cons.inj h).1
        rw [← this]; exact hl x (List.mem_of_mem_take (by rw [ht]; exact List.mem_cons_self))
    rw [h] at len all
    rw [List.length_cons] at len
    exact ⟨c, cs, rfl, by omega, hc, all⟩
theorem join0 : ∀ ls : List Nat, TL.joinL [] (ls.map fun c => [c]) = ls
  | [] => rfl
  | [c] => rfl
  | c :: d :: ls => by
    have := join0 (d :: ls)
    show [c] ++ ([] ++ TL.joinL [] ((d :: ls).map fun c => [c])) = _
    rw [this]; rfl
def DrT (tt : TT) (σ : L2.St) (q : Addr) (n n' : Nat) : Prop := ∀ H, Box H q n → ∀ Q : Bool → Hp → Prop, (∀ b H', ExB q H H' → Box H' q n' → Q b H') → tt σ H Q
theorem q_drif {D : Ends} {tt : TT} {tu tz : TS} {σ : L2.St} {q : Addr} {n n1 : Nat} {H : Hp} (h : DrT tt σ q n n1) (b : Box H q n) (k1 : ∀ H', ExB q H H' → Box H' q n1 → tu { D with nx := tz D } σ H') (k2 : ∀ H', ExB q H H' → Box H' q n1 → tz D σ H') : tSeq (tIfS tt tu tNext) tz D σ H :=
  h H b _ fun c H' e b' => by
    cases c with
    | true => exact k1 H' e b'
    | false => exact k2 H' e b'
abbrev nN : List Str := ["_law_box_here", "_law_many", "_law_letters", "_law_words", "_law_at", "_law_k", "_law_base", "_law_first", "_law_names_here", "_law_sign"]
theorem dr_takeC {p : Pm} {σ : L2.St} {q : Addr} {n1 : Nat} {M : Int} (h0 : σ[0]? = some (some (.ref q))) (h1 : 1 ≤ M) (hM : M ≤ 1000) : Dr (tCall (sp_law_take p) [] E0 (tCons (tVar 0) (tCons (tC (.int M)) tNil))) σ q (n1 + 1) n1 (RI 0 (M - 1)) :=
  dr_take h0 (dr_c.imp fun v e => ⟨M, e, h1, Int.le_refl _⟩) hM
theorem range7 : ((List.range (7 : Int).toNat).map fun i : Nat => (i : Int)) = (List.range 7).map fun i : Nat => (i : Int) := rfl
/-- the words' names -/
theorem evr_words {K : PySem.W.Frag} {H : Hp} {σ : L2.St} {w : Addr} {a : Int} {y0 y2 y6 y7 y8 y9 : Option V} (hσ : σ = [y0, some (.int 7), y2, some (.ref w), some (.int a), none, y6, y7, y8, y9]) (hw : H w = some (.lst (wds.map V.str))) (a0 : 0 ≤ a) (a1 : a < 14) :
    EvR (tLc (iRng1 (tCons (tVar 1) tNil)) (gName 5) tYes (tOp (rIxL K) (tVar 3) (tOp rModI (tOp rAddI (tVar 4) (tOp rMulW (tC (.int 3)) (tVar 5))) (tC (.int 14)))) [5]) σ H (NewL RStr (nmw1 a.toNat)) := by
  subst hσ
  refine evr_cast ?_ (evr_lcR1 (n := 7) (h := fun i => wds.getD ((a + 3 * i) % 14).toNat "") rstr_lst (s2 := fun x => [y0, some (.int 7), y2, some (.ref w), some (.int a), some x, y6, y7, y8, y9]) (ea_cons (ev_var rfl) ea_nil) ⟨by decide, by decide⟩ (fun x H1 k hk => hk) (fun x => rfl) (fun _ _ => et_yes) fun i H1 e i0 i1 => ?_)
  · rw [range7, List.map_map]
    unfold nmw1
    refine List.map_congr_left fun k hk => ?_
    have := List.mem_range.mp hk
    show wds.getD ((a + 3 * (k : Int)) % 14).toNat "" = wds.getD ((a.toNat + 3 * k) % 14) ""
    congr 1
    omega
  · have m0 := Int.emod_nonneg (a + 3 * i) (show (14 : Int) ≠ 0 by decide)
    have m1 := Int.emod_lt_of_pos (a + 3 * i) (show (0 : Int) < 14 by decide)
    refine evr_ev (v := .str (wds.getD ((a + 3 * i) % 14).toNat "")) (ev_op (ev_var rfl) (ev_op (ev_op (ev_var rfl) (ev_op ev_c (ev_var rfl) (rv_mul ⟨by decide, by decide⟩ ⟨by omega, by omega⟩)) rv_I0) ev_c (rv_mod (by decide))) (rv_ixL (sq_of (e _ _ hw)) ?_))
    obtain ⟨j, hj⟩ := Int.eq_ofNat_of_zero_le m0
    rw [hj] at m1 ⊢
    have hj14 : j < wds.length := by show j < 14; omega
    refine atI_nat ?_
    rw [List.getElem?_map, List.getElem?_eq_getElem hj14]
    show some (V.str wds[j]) = some (V.str (wds.getD j ""))
    rw [List.getD_eq_getElem?_getD, List.getElem?_eq_getElem hj14]; rfl
/-- the base: some letters -/
theorem dr_base {p : Pm} {σ : L2.St} {q : Addr} {n : Nat} {y1 y3 y4 y6 y7 y8 y9 : Option V} (hσ : σ = [some (.ref q), y1, some (.str letters), y3, y4, none, y6, y7, y8, y9]) :
    Dr (tM1 (rJoin p.K) (tC (.str "")) (tLc (iRng1 (tCons (tCall (sp_law_take p) [] E0 (tCons (tVar 0) (tCons (tC (.int 5)) tNil))) tNil)) (gName 5) tYes (tOp rIxS (tVar 2) (tCall (sp_law_take p) [] E0 (tCons (tVar 0) (tCons (tC (.int 26)) tNil)))) [5])) σ q (n + 5) n
      (fun v => ∃ b : List Nat, v = .str (S b) ∧ b.length ≤ 4 ∧ ∀ c ∈ b, c ∈ letters.cps.toList) := fun H bx Q k => by
  subst hσ
  refine ⟨⟨_, rfl⟩, ?_⟩
  have hda : DrA (tCons (tCall (sp_law_take p) [] E0 (tCons (tVar 0) (tCons (tC (.int 5)) tNil))) tNil) [some (.ref q), y1, some (.str letters), y3, y4, none, y6, y7, y8, y9] q (n + 5) (n + 4) _ := dra_cons (dr_takeC (p := p) (n1 := n + 4) (M := 5) rfl (by decide) (by decide)) dra_nil
  unfold tLc iRng1
  refine hda H bx _ fun vs H1 e1 b1 ⟨x, xs, evs, ⟨j, ex, j0, j1⟩, exs⟩ => ?_
  subst exs; subst ex; subst evs
  refine ⟨j, rfl, by omega, by omega, fun D hD => ?_⟩
  have qD : q ≠ D := fun z => by obtain ⟨ys, h⟩ := b1.lst; rw [z, hD] at h; cases h
  refine lc_range (lo := 0) (n := j.toNat) (fun i H' => (∀ b o, H1 b = some o → b ≠ q → H' b = some o) ∧ Box H' q (n + 4 - i) ∧ ∃ ls : List Nat, ls.length = i ∧ (∀ c ∈ ls, c ∈ letters.cps.toList) ∧ H' D = some (.lst (ls.map fun c => V.str ⟨#[c]⟩)))
    ⟨fun b o h _ => Ex.new hD b o h, b1.ex (Ex.new hD), [], rfl, fun c hc => (by cases hc), upd_same⟩ (fun i H' hi ⟨h1, h2, ls, h3, h4, h5⟩ => ?_) fun H' ⟨h1, h2, ls, h3, h4, h5⟩ => ?_
  · refine ⟨rfl, ?_⟩
    refine ⟨.str letters, rfl, .ref q, rfl, q, 26, n + 4 - (i + 1), rfl, h2.le (by omega), by decide, by decide, fun v H3 e3 b3 v0 v1 => ?_⟩
    have hv : v.toNat < 26 := by omega
    have ev : v = ((v.toNat : Nat) : Int) := by omega
    refine ⟨letters, v, 97 + v.toNat, rfl, rfl, sz_of (by decide +kernel), by rw [ev]; exact atI_nat (let_at hv), ls.map fun c => V.str ⟨#[c]⟩, e3 _ _ h5 qD.symm, ?_, fun b o hb nb => ?_, ?_, ls ++ [97 + v.toNat], by rw [List.length_append, h3]; rfl, fun c hc => ?_, by rw [upd_same, List.map_append]; rfl⟩
    · rw [List.length_map, h3]; exact sz_lt (by omega)
    · rw [upd_ne (ne_of_none hb hD)]; exact e3 _ _ (h1 b o hb nb) nb
    · exact b3.b qD ((ExB.refl _ _).upd)
    · rcases List.mem_append.mp hc with a | a
      · exact h4 c a
      · rw [List.mem_singleton.mp a]; exact let_mem hv
  · have hsum : ∀ l : List Nat, ((l.map fun c => (⟨#[c]⟩ : Str)).map (·.length)).sum = l.length := fun l => by
      induction l with
      | nil => rfl
      | cons c l ih => rw [List.map_cons, List.map_cons, List.sum_cons, ih, List.length_cons]; show 1 + l.length = _; omega
    refine ⟨"", D, ls.map fun c => (⟨#[c]⟩ : Str), rfl, rfl, Or.inl (sq_of (by rw [h5, List.map_map]; rfl)), ?_, ?_⟩
    · rw [hsum, List.length_map, h3]
      show j.toNat + j.toNat * 0 ≤ _
      omega
    · have ej : Txt.join "" (ls.map fun c => (⟨#[c]⟩ : Str)) = S ls := by
        have h6 := join_S [] (ls.map fun c => [c])
        rw [join0, List.map_map] at h6
        exact h6
      rw [ej]
      exact k _ H' (fun b o hb nb => h1 b o (e1 b o hb nb) nb) (h2.le (by omega)) ⟨ls, rfl, by omega, h4⟩
theorem rd_law_names (p : Pm) : Keeps (t_law_names p) nN (sp_law_names p) := fun vs H Q E ⟨q, n, ev, hb, hq⟩ => by
  subst ev
  refine q_asg (v := .str letters) ev_c fun H1 e1 => ?_
  have hwl : EvR (tLst (tCons (tC (.str "a")) (tCons (tC (.str "ask")) (tCons (tC (.str "b")) (tCons (tC (.str "work")) (tCons (tC (.str "a1")) (tCons (tC (.str "rest")) (tCons (tC (.str "ab")) (tCons (tC (.str "failed")) (tCons (tC (.str "abc")) (tCons (tC (.str "done")) (tCons (tC (.str "ba")) (tCons (tC (.str "off")) (tCons (tC (.str "aa")) (tCons (tC (.str "left")) tNil))))))))))))))) ((start nN [.ref q, .int 7]).set 2 (some (.str letters))) H1 (fun u H' => ∃ w, u = .ref w ∧ H' w = some (.lst (wds.map V.str)) ∧ w ≠ q) := fun H2 e2 Q' q' =>
    ⟨sz_of (show 14 ≤ 100000 by decide), fun w hw => q' _ _ (Ex.new hw) ⟨w, rfl, upd_same, fun z => by obtain ⟨ys, h⟩ := (hb.ex (e1.trans e2)).lst; rw [z, h] at hw; cases hw⟩⟩
  refine q_asgR hwl fun u H2 e2 ⟨w, eu, hw, wq⟩ => ?_
  subst eu
  have b2 := hb.ex (e1.trans e2)
  have tst : DrT (tAnd (tTest (tOp rLtI (tVar 1) (tC (.int 15)))) (tTest (tOp rEq (tCall (sp_law_take p) [] E0 (tCons (tVar 0) (tCons (tC (.int 4)) tNil))) (tC (.int 0))))) [some (.ref q), some (.int 7), some (.str letters), some (.ref w), none, none, none, none, none, none] q (n + 20) (n + 19) := fun H3 b3 Q' q' => by
    refine ⟨.int 7, rfl, 7, 15, rfl, rfl, true, rfl, ?_⟩
    exact ⟨.ref q, rfl, q, 4, n + 19, rfl, b3, by decide, by decide, fun v H4 e4 b4 v0 v1 => ⟨rfl, _, rfl, q' _ H4 e4 b4⟩⟩
  refine q_drif tst b2 (fun H3 e3 b3 => ?_) fun H3 e3 b3 => ?_
  · refine q_dr (n1 := n + 18) (dr_takeC (M := 14) rfl (by decide) (by decide)) b3 fun v4 H4 e4 b4 ⟨a, ea, a0, a1⟩ => ?_
    subst ea
    have hw4 := e4 _ _ (e3 _ _ hw wq) wq
    refine s_retR (evr_words (K := p.K) (a := a) rfl hw4 a0 (by omega)) fun u H5 e5 hu => ?_
    obtain ⟨g1, g2⟩ := nmw1_ok a.toNat (by omega)
    refine hq u H5 (nmw1 a.toNat) ((((ExB.of (e1.trans e2)).trans e3).trans e4).trans (ExB.of e5)) ((b4.ex e5).le (by omega)) hu ?_ g1 fun z hz => nm_of (List.all_eq_true.mp g2 z hz)
    unfold nmw1; rw [List.length_map, List.length_range]
  · refine q_dr (n1 := n + 14) (dr_base (p := p) rfl) b3 fun v4 H4 e4 b4 ⟨b, eb, bl, bm⟩ => ?_
    subst eb
    have hat : Dr (tCall (sp_law_take p) [] E0 (tCons (tVar 0) (tCons (tOp rAddI (tCB rLenStr (tCons (tVar 6) tNil)) (tC (.int 1))) tNil))) [some (.ref q), some (.int 7), some (.str letters), some (.ref w), none, none, some (.str (S b)), none, none, none] q (n + 14) (n + 13) (RI 0 ((b.length : Int) + 1 - 1)) :=
      dr_take rfl (fun H5 b5 Q' q' => ⟨.str (S b), rfl, S b, rfl, sz_of (by rw [S_len]; omega), (b.length : Int), 1, by rw [S_len], rfl, q' _ H5 (ExB.refl _ _) b5 ⟨(b.length : Int) + 1, rfl, by omega, Int.le_refl _⟩⟩) (by omega)
    refine q_dr hat b4 fun v5 H5 e5 b5 ⟨a, ea, a0, a1⟩ => ?_
    subst ea
    refine q_dr (n1 := n + 12) (dr_takeC (M := 26) rfl (by decide) (by decide)) b5 fun v6 H6 e6 b6 ⟨f, ef, f0, f1⟩ => ?_
    subst ef
    refine q_new fun D hD => ?_
    have qD : q ≠ D := fun z => by obtain ⟨ys, h⟩ := b6.lst; rw [z, hD] at h; cases h
    have hD1 : (upd H6 D (.lst []) : Hp) D = some (.lst []) := upd_same
    have ex6 : ExB q H H6 := ((((ExB.of (e1.trans e2)).trans e3).trans e4).trans e5).trans e6
    refine q_forR1 (n := 7) (ea_cons (ev_var rfl) ea_nil) ⟨by decide, by decide⟩ (fun i σ H' => ∃ y5 y9, σ = [some (.ref q), some (.int 7), some (.str letters), some (.ref w), some (.int a), y5, some (.str (S b)), some (.int f), some (.ref D), y9] ∧ ExB D (upd H6 D (.lst [])) H' ∧ AccAt RStr D ((List.range i).map fun k => S (nmw2 b a.toNat f.toNat k)) H')
      (fun H7 e7 => ⟨_, _, rfl, ExB.of e7, ⟨[], e7 _ _ hD1, .nil⟩⟩) (fun i σ H' hi ⟨y5, y9, es, eB, A⟩ => ?_) fun σ H' ⟨y5, y9, es, eB, A⟩ => ?_
    · subst es
      have hi7 : i < 7 := by omega
      have hm : (f.toNat + 7 * i) % 26 < 26 := Nat.mod_lt _ (by decide)
      have sign : Ev (tOp rCatS (tOp rIxS (tVar 2) (tOp rModI (tOp rAddI (tVar 7) (tOp rMulW (tC (.int 7)) (tVar 5))) (tC (.int 26)))) (tOp (rIxL p.K) (tLst (tCons (tC (.str "")) (tCons (tC (.str "0")) tNil))) (tOp rDivW (tVar 5) (tC (.int 26)))))
          [some (.ref q), some (.int 7), some (.str letters), some (.ref w), some (.int a), some (.int (i : Int)), some (.str (S b)), some (.int f), some (.ref D), y9] H' (.str (S [97 + (f.toNat + 7 * i) % 26])) := by
        refine ev_op (x := .str ⟨#[97 + (f.toNat + 7 * i) % 26]⟩) (y := .str "") (ev_op (ev_var rfl) (ev_op (ev_op (ev_var rfl) (ev_op ev_c (ev_var rfl) (rv_mul ⟨by decide, by decide⟩ ⟨by omega, by omega⟩)) rv_I0) ev_c (rv_mod (by decide))) (rv_ixS (by decide +kernel) (by
            have : (f + 7 * (i : Int)) % 26 = (((f.toNat + 7 * i) % 26 : Nat) : Int) := by omega
            rw [this]; exact atI_nat (let_at hm)))) (fun H8 e8 Q' q' => ⟨sz_of (show 2 ≤ 100000 by decide), fun l hl => ⟨.int (i : Int), rfl, i, 26, rfl, rfl, wide_div (by decide) (sm ⟨by decide, by decide⟩) (by decide) (by decide), l, _, (i : Int) / 26, .str "", rfl, rfl, sq_of upd_same, by
              have : (i : Int) / 26 = ((0 : Nat) : Int) := by omega
              rw [this]; exact atI_nat rfl, q' _ (Ex.new hl)⟩⟩) fun H8 _ Q' q' => ⟨⟨#[97 + (f.toNat + 7 * i) % 26]⟩, "", rfl, rfl, sz_of (show 1 + 0 ≤ 100000 by decide), ?_⟩
        have e : (⟨#[97 + (f.toNat + 7 * i) % 26]⟩ : Str) ++ ("" : Str) = S [97 + (f.toNat + 7 * i) % 26] := by
          have := S_cat [97 + (f.toNat + 7 * i) % 26] []
          rw [List.append_nil] at this
          exact this
        rw [e]; exact q' H8 (Ex.refl H8)
      refine q_asg sign fun H7 e7 => ?_
      have A7 := A.ex rstr_lst e7
      refine acc_app rstr_lst A7 (i := 8) rfl (evr_ev (v := .str (S (nmw2 b a.toNat f.toNat i))) ?_) (by rw [List.length_map, List.length_range]; omega) fun H8 e8 A8 => ⟨_, _, rfl, (eB.trans (ExB.of e7)).trans e8, by rw [List.range_succ, List.map_append]; exact A8⟩
      have slc : ∀ {H9 : Hp} {te : TE} {l : List Nat} {lo hi : Option Int} {tl th : TO} {r : List Nat}, Ev te [some (.ref q), some (.int 7), some (.str letters), some (.ref w), some (.int a), some (.int (i : Int)), some (.str (S b)), some (.int f), some (.ref D), some (.str (S [97 + (f.toNat + 7 * i) % 26]))] H9 (.str (S l)) → l.length ≤ 100 →
          (∀ H1, Ex H9 H1 → ∀ Q : Option Int → Hp → Prop, (∀ H2, Ex H1 H2 → Q lo H2) → tl [some (.ref q), some (.int 7), some (.str letters), some (.ref w), some (.int a), some (.int (i : Int)), some (.str (S b)), some (.int f), some (.ref D), some (.str (S [97 + (f.toNat + 7 * i) % 26]))] H1 Q) →
          (∀ H1, Ex H9 H1 → ∀ Q : Option Int → Hp → Prop, (∀ H2, Ex H1 H2 → Q hi H2) → th [some (.ref q), some (.int 7), some (.str letters), some (.ref w), some (.int a), some (.int (i : Int)), some (.str (S b)), some (.int f), some (.ref D), some (.str (S [97 + (f.toNat + 7 * i) % 26]))] H1 Q) →
          Txt.slice (S l) lo hi = S r → Ev (tSl C8.rSlX te tl th) [some (.ref q), some (.int 7), some (.str letters), some (.ref w), some (.int a), some (.int (i : Int)), some (.str (S b)), some (.int f), some (.ref D), some (.str (S [97 + (f.toNat + 7 * i) % 26]))] H9 (.str (S r)) := fun {H9 te l lo hi tl th r} h hl h1 h2 er H1 e Q' q' =>
        h H1 e _ fun H2 e2 => h1 H2 (e.trans e2) _ fun H3 e3 => h2 H3 ((e.trans e2).trans e3) _ fun H4 e4 => ⟨S l, rfl, sz_of (by rw [S_len]; omega), by rw [er]; exact q' H4 ((e2.trans e3).trans e4)⟩
      have cat : ∀ {H9 : Hp} {x y : List Nat}, x.length + y.length ≤ 100 → RV rCatS (.str (S x)) (.str (S y)) H9 (.str (S (x ++ y))) := fun {H9 x y} h H1 _ Q' q' => ⟨S x, S y, rfl, rfl, sz_of (by rw [S_len, S_len]; omega), by rw [S_cat]; exact q' H1 (Ex.refl H1)⟩
      have hnp : ∀ {σ : L2.St} {H9 : Hp}, ∀ H1, Ex H9 H1 → ∀ Q : Option Int → Hp → Prop, (∀ H2, Ex H1 H2 → Q none H2) → tNoPart σ H1 Q := fun H1 _ Q q => q H1 (Ex.refl H1)
      have fin := ev_op (H := H7) (ev_op (ev_op (slc (te := tVar 6) (lo := none) (hi := some a) (tl := tNoPart) (th := tPart (tVar 4)) (ev_var rfl) (by omega) hnp (fun H1 _ Q q => ⟨.int a, rfl, a, rfl, q H1 (Ex.refl H1)⟩) (slice_to a0)) (ev_var (i := 9) rfl) (cat (by rw [List.length_take, List.length_singleton]; omega))) (slc (te := tVar 6) (lo := some a) (hi := none) (tl := tPart (tVar 4)) (th := tNoPart) (ev_var rfl) (by omega) (fun H1 _ Q q => ⟨.int a, rfl, a, rfl, q H1 (Ex.refl H1)⟩) hnp (slice_from a0)) (cat (by rw [List.length_append, List.length_take, List.length_singleton, List.length_drop]; omega)))
        (slc (te := tC (.str "z9")) (l := [122, 57]) (lo := none) (hi := some ((i : Int) % 3)) (tl := tNoPart) (th := tPart (tOp rModI (tVar 5) (tC (.int 3)))) ev_c (by decide) hnp (fun H1 _ Q q => ⟨.int (i : Int), rfl, i, 3, rfl, rfl, (show (0 : Int) < 3 by decide), (i : Int) % 3, rfl, q H1 (Ex.refl H1)⟩) (slice_to (Int.emod_nonneg _ (by decide)))) (cat (by rw [List.length_append, List.length_append, List.length_take, List.length_singleton, List.length_drop, List.length_take]; have : ([122, 57] : List Nat).length = 2 := rfl; omega))
      refine ev_is fin ?_
      unfold nmw2
      have : ((i : Int) % 3).toNat = i % 3 := by omega
      rw [this]
      simp [List.append_assoc]
    · subst es
      have b7 : Box H' q (n + 12) := (b6.ex (Ex.new hD)).b qD eB
      have xF : ExB q H H' := fun c o hc nc => eB _ _ (Ex.new hD _ _ (ex6 c o hc nc)) (ne_of_none (ex6 c o hc nc) hD)
      obtain ⟨ys, g1, g2⟩ := A
      refine s_ret (v := .ref D) (ev_var rfl) fun H7 e7 => hq _ H7 ((List.range 7).map fun k => S (nmw2 b a.toNat f.toNat k)) (xF.trans (ExB.of e7)) ((b7.ex e7).le (by omega)) ⟨D, ys, rfl, e7 _ _ g1, g2.mono rstr_lasts e7⟩ (by rw [List.length_map, List.length_range]) (nmw2_nodup _ _ _) fun z hz => ?_
      obtain ⟨k, _, rfl⟩ := List.mem_map.mp hz
      exact nmw2_nm bl bm
end Fs

set_option Elab.async false
set_option linter.all false
set_option maxRecDepth 100000
set_option maxHeartbeats 4000000
/-! what the last ones promise -/
namespace Fs
open PySem PySem.Spec PyProof.Rows L2 Evl
open LamX NdefX
def sp_later_end (p : Pm) : Sp := fun vs H Q _ => ∃ rs k r, Ref p vs H rs k r ∧ Tabs p.T H ∧ ∀ u H', ExtN H H' → Tabs p.T H' → Least (fun t => rs ++ [later r t]) k (199 - r.l) u H' → Q u H'
def sp_earlier_start (p : Pm) : Sp := fun vs H Q _ => ∃ rs k r v y, vs = [v, .int k, y, .int 0] ∧ Ref p [v, .int k, y] H rs k r ∧ Tabs p.T H ∧ ∀ u H', ExtN H H' → Tabs p.T H' → Least (fun t => rs ++ [earlier r t]) k (r.f - 0) u H' → Q u H'
def sp_law_instead_right (p : Pm) : Sp := fun vs H Q _ => ∃ rs k r v l y, vs = [v, l, .int k, y] ∧ Ref p [v, .int k, y] H rs k r ∧ LsAt RRow l rs H ∧ Tabs p.T H ∧ ∀ H', ExtN H H' → Tabs p.T H' → Q (.bl true) H'
def sp_law_right (p : Pm) : Sp := fun vs H Q _ => ∃ rs qs k r l y, vs = [l, .int k, y] ∧ LsAt RRow l rs H ∧ RRow y r H ∧ Prom rs qs k ∧ r ∈ qs ∧ 0 ≤ k ∧ k ≤ 29 ∧ Tabs p.T H ∧ ∀ H', ExtN H H' → Tabs p.T H' → Q (.bl true) H'
def sp_law (p : Pm) : Sp := fun vs H Q _ => ∃ (a : Addr) (ns : List Int), vs = [.ref a] ∧ SqL p.K H a (ns.map V.int) ∧ ns.length ≤ 63 ∧ Tabs p.T H ∧ ∀ H', Q (.bl true) H'
end Fs

set_option Elab.async false
set_option linter.all false
set_option maxRecDepth 100000
set_option maxHeartbeats 4000000
/-! the readings (printed by gen_walk.py) -/
namespace Fs
open PySem PySem.Spec PyProof.Rows L2 Evl
/-- _law_instead_right -/
def t_law_instead_right (p : Pm) : TS := (tSeq (tAsg (tLst tNil) (gName 4))
  (tSeq (tFor (iList p.K (tVar 1)) (gName 5) (tSeq (tAsg (tOp rCat (tLc (iList p.K (tVar 1)) (gName 7) (tTest (tOp (rNeD p.K) (tVar 7) (tVar 5))) (tVar 7) [7]) (tLst (tCons (tVar 3) tNil))) (gName 6))
  (tIfS (tTest (tOp (rEqD p.K) (tCall (sp_law_short p) [] E0 (tCons (tVar 6) (tCons (tVar 2) tNil))) (tLst tNil))) (tDrop (tBM p.K "list" rAppend (tVar 4) (tCons (tOp (rIxT p.K) (tVar 5) (tC (.int 0))) tNil))) tNext)))
  (tSeq (tAsg (tCall (sp_instead_of p) [] E0 (tCons (tVar 0) (tCons (tVar 2) (tCons (tVar 3) tNil)))) (gName 8))
  (tSeq (tIfS (tOr (tNot (tB (tCB (rIsi p.K) (tCons (tVar 8) (tCons (tC (.ty "list")) tNil))))) (tTest (tOp (rNeD p.K) (tLc (iList p.K (tVar 8)) (gName 5) tYes (tOp (rIxT p.K) (tVar 5) (tC (.int 0))) [5]) (tVar 4)))) (tRet (tC (.bl false))) tNext)
  (tSeq (tFor (iList p.K (tVar 8)) (gTup p.K 2 (gCons (gName 9) (gCons (gName 10) gNil))) (tSeq (tIfS (tOr (tTest (tOp rNe (tMeth p.CK "word" (sp_Kept_word p) [] E0 (tVar 10) tNil) (tC (.str "kept")))) (tOr (tTest (tOp rNotB (tMeth p.CK "holds" (sp_Kept_holds p) [] E0 (tVar 10) tNil) (tC (.bl true)))) (tTest (tOp rNe (tMeth p.CK "failings" (sp_Paper_failings p) [] E0 (tVar 10) tNil) (tVar 2))))) (tRet (tC (.bl false))) tNext)
  (tSeq (tAsg (tOp rCat (tLc (iList p.K (tVar 1)) (gName 7) (tTest (tOp rNe (tOp (rIxT p.K) (tVar 7) (tC (.int 0))) (tVar 9))) (tVar 7) [7]) (tLst (tCons (tVar 3) tNil))) (gName 6))
  (tIfS (tNot (tB (tCall (sp_law_order_right p) [] E0 (tCons (tVar 6) (tCons (tMeth p.CK "order" (sp_Kept_order p) [] E0 (tVar 10) (tCons tDNewK tNil)) tNil))))) (tRet (tC (.bl false))) tNext))))
  (tSeq (tDrop (tBM p.K "list" rAppend (tVar 8) (tCons (tTup (tCons (tC (.str "x")) (tCons (tC .non) tNil))) tNil)))
  (tRet (tOp (rEqD p.K) (tLc (iList p.K (tCall (sp_instead_of p) [] E0 (tCons (tVar 0) (tCons (tVar 2) (tCons (tVar 3) tNil))))) (gName 5) tYes (tOp (rIxT p.K) (tVar 5) (tC (.int 0))) [5]) (tVar 4)))))))))
/-- _law_right -/
def t_law_right (p : Pm) : TS := (tSeq (tAsg (tMake p.CP (sp_Pieces_init p) [] E0 (tCons (tVar 0) tNil)) (gName 3))
  (tSeq (tAsg (tCall (sp_law_numbers p) [] E0 (tCons (tVar 0) (tCons (tVar 1) (tCons (tVar 2) (tCons (tC (.int 2)) (tCons (tC (.int 1)) (tCons (tOp rSubI (tC (.int 199)) (tOp (rIxT p.K) (tVar 2) (tC (.int 2)))) tNil))))))) (gName 4))
  (tSeq (tIfS (tNot (tB (tCall (sp_law_turns_right p) [] E0 (tCons (tCall (sp_later_end p) [] E0 (tCons (tVar 3) (tCons (tVar 1) (tCons (tVar 2) tNil)))) (tCons (tVar 4) (tCons (tOp rSubI (tC (.int 199)) (tOp (rIxT p.K) (tVar 2) (tC (.int 2)))) tNil)))))) (tRet (tC (.bl false))) tNext)
  (tSeq (tAsg (tCall (sp_law_numbers p) [] E0 (tCons (tVar 0) (tCons (tVar 1) (tCons (tVar 2) (tCons (tC (.int 1)) (tCons (tOp rSubI (tC (.int 0)) (tC (.int 1))) (tCons (tOp (rIxT p.K) (tVar 2) (tC (.int 1))) tNil))))))) (gName 5))
  (tSeq (tIfS (tNot (tB (tCall (sp_law_turns_right p) [] E0 (tCons (tCall (sp_earlier_start p) [.int 0] E0 (tCons (tVar 3) (tCons (tVar 1) (tCons (tVar 2) tNil)))) (tCons (tVar 5) (tCons (tOp (rIxT p.K) (tVar 2) (tC (.int 1))) tNil)))))) (tRet (tC (.bl false))) tNext)
  (tSeq (tAsg (tCall (sp_fewer p) [] E0 (tCons (tVar 3) (tCons (tVar 1) (tCons (tVar 2) tNil)))) (gName 6))
  (tSeq (tIfS (tOr (tNot (tB (tCB (rIsi p.K) (tCons (tVar 6) (tCons (tC (.ty "int")) tNil))))) (tOr (tB (tCB (rIsi p.K) (tCons (tVar 6) (tCons (tC (.ty "bool")) tNil)))) (tOr (tTest (tOp rNe (tVar 6) (tCall (sp_law_borne p) [] E0 (tCons (tOp rCat (tVar 0) (tLst (tCons (tVar 2) tNil))) tNil)))) (tTest (tOp rGeI (tVar 6) (tVar 1)))))) (tRet (tC (.bl false))) tNext)
  (tRet (tAndV (tCall (sp_law_instead_right p) [] E0 (tCons (tVar 3) (tCons (tVar 0) (tCons (tVar 1) (tCons (tVar 2) tNil))))) (tOp (rEqD p.K) (tMeth p.CP "told" (sp_Pieces_told p) [] E0 (tVar 3) tNil) (tCB (rTupleOf p.K) (tCons (tVar 0) tNil))))))))))))
/-- law -/
def t_law (p : Pm) : TS := (tSeq (tFor (iRng1 (tCons (tCB Evl.rMax2 (tCons (tC (.int 3)) (tCons (tCB rMin2 (tCons (tCB (Evl.rLenS p.K) (tCons (tVar 0) tNil)) (tCons (tC (.int 6)) tNil))) tNil))) tNil)) (gName 1) (tSeq (tAsg (tCall (sp_law_box p) [] E0 (tCons (tCall (sp_law_cell p) [] E0 (tCons (tVar 0) (tCons (tVar 1) tNil))) tNil)) (gName 2))
  (tSeq (tAsg (tOp (rIxL p.K) (tLst (tCons (tCall (sp_law_take p) [] E0 (tCons (tVar 2) (tCons (tC (.int 5)) tNil))) (tCons (tCall (sp_law_take p) [] E0 (tCons (tVar 2) (tCons (tC (.int 30)) tNil))) tNil))) (tCB rInt1 (tCons (tOp rEq (tCall (sp_law_take p) [] E0 (tCons (tVar 2) (tCons (tC (.int 6)) tNil))) (tC (.int 0))) tNil))) (gName 3))
  (tSeq (tAsg (tCall (sp_law_promised p) [] E0 (tCons (tVar 2) (tCons (tCall (sp_law_names p) [] E0 (tCons (tVar 2) (tCons (tC (.int 7)) tNil))) (tCons (tVar 3) tNil)))) (gUnl p.K 2 (gCons (gName 4) (gCons (gName 5) gNil))))
  (tFor (iList p.K (tSl (rSlL p.K) (tVar 5) (tPart (tUn rNegI (tC (.int 1)))) tNoPart)) (gName 6) (tIfS (tNot (tB (tCall (sp_law_right p) [] E0 (tCons (tVar 4) (tCons (tVar 3) (tCons (tVar 6) tNil)))))) (tRet (tC (.bl false))) tNext))))))
  (tRet (tC (.bl true))))
end Fs

set_option Elab.async false
set_option linter.all false
set_option maxRecDepth 100000
set_option maxHeartbeats 4000000
/-! READINGS -/
namespace Fs
open PySem PySem.Spec PyProof.Rows L2 Evl
open LamX NdefX
/-! ### the numbers that law finds are what least_turns tells -/
theorem fits_of {g : Int → List Row} {k most : Int} {u : V} {H : Hp} {found : List Int} (h : Least g k most u H) (mono : ∀ s t, 0 ≤ s → s ≤ t → t ≤ most → Fm.kept (g s) k = true → Fm.kept (g t) k = true)
    (hf : found = (turnsTo most).filter fun t => Fm.kept (g t) k) : Fits u found most H := by
  have mem : ∀ {t}, t ∈ turnsTo most → 1 ≤ t ∧ t ≤ most := fun {t} ht => by
    unfold turnsTo at ht
    obtain ⟨i, hi, rfl⟩ := List.mem_map.mp ht
    have := List.mem_range.mp hi
    omega
  rcases h with ⟨h1, hu⟩ | ⟨h1, h2, a, b, x, y, hu, ha, h3, h4, h5, h6⟩
  · refine .inl ⟨?_, hu⟩
    rw [hf]
    refine List.filter_eq_nil_iff.mpr fun t ht hk => ?_
    obtain ⟨t1, t2⟩ := mem ht
    rcases h1 with h1 | h1
    · omega
    · rw [mono t most (by omega) t2 (Int.le_refl _) hk] at h1; cases h1
  · refine .inr ⟨a, b, x, y, hu, ha, h3, h4, ?_⟩
    rw [hf]
    refine List.filter_congr fun t ht => ?_
    obtain ⟨t1, t2⟩ := mem ht
    by_cases hat : a ≤ t
    · rw [decide_eq_true hat]; exact mono a t (by omega) hat t2 h5
    · rw [decide_eq_false hat]
      cases q : Fm.kept (g t) k with
      | false => rfl
      | true => rw [mono t (a - 1) (by omega) (by omega) (by omega) q] at h6; cases h6
theorem lawShort_kept {rs : List Row} (ok : Fm.Oks rs) (k : Int) : (Fm.lawShort rs k).isEmpty = Fm.kept rs k := by
  rw [Bool.eq_iff_iff, List.isEmpty_iff, Fm.lawShort_iff ok, Fm.kept_iff ok]
theorem oks_snoc {rs : List Row} {r : Row} (h : Fm.Oks rs) (ok : Fm.Ok r) : Fm.Oks (rs ++ [r]) := fun q hq => by
  rcases List.mem_append.mp hq with a | a
  · exact h q a
  · rw [List.mem_singleton.mp a]; exact ok
theorem mono_later {rs : List Row} {r : Row} {k : Int} (hk : 0 ≤ k) (ok : Fm.Oks (rs ++ [r])) : ∀ s t, 0 ≤ s → s ≤ t → t ≤ 199 - r.l → Fm.kept (rs ++ [later r s]) k = true → Fm.kept (rs ++ [later r t]) k = true := fun s t s0 st tm h => by
  have or := ok r (by simp)
  have o0 : Fm.Oks rs := fun q hq => ok q (List.mem_append_left _ hq)
  have os : ∀ x, 0 ≤ x → x ≤ 199 - r.l → Fm.Ok (later r x) := fun x x0 x1 => ⟨or.f0, by show r.f ≤ r.l + x; have := or.fl; omega, by show r.l + x ≤ 199; omega, or.c1, or.c2, or.r0, or.rc⟩
  rw [Fm.kept_iff (oks_snoc o0 (os s s0 (by omega)))] at h
  rw [Fm.kept_iff (oks_snoc o0 (os t (by omega) tm))]
  exact h.wider hk ⟨Int.le_refl _, by show r.l + s ≤ r.l + t; omega, rfl, rfl⟩ or.r0
theorem mono_earlier {rs : List Row} {r : Row} {k : Int} (hk : 0 ≤ k) (ok : Fm.Oks (rs ++ [r])) : ∀ s t, 0 ≤ s → s ≤ t → t ≤ r.f - 0 → Fm.kept (rs ++ [earlier r s]) k = true → Fm.kept (rs ++ [earlier r t]) k = true := fun s t s0 st tm h => by
  have or := ok r (by simp)
  have o0 : Fm.Oks rs := fun q hq => ok q (List.mem_append_left _ hq)
  have os : ∀ x, 0 ≤ x → x ≤ r.f → Fm.Ok (earlier r x) := fun x x0 x1 => ⟨by show 0 ≤ r.f - x; omega, by show r.f - x ≤ r.l; have := or.fl; omega, or.l1, or.c1, or.c2, or.r0, or.rc⟩
  rw [Fm.kept_iff (oks_snoc o0 (os s s0 (by omega)))] at h
  rw [Fm.kept_iff (oks_snoc o0 (os t (by omega) (by omega)))]
  exact h.wider hk ⟨by show r.f - t ≤ r.f - s; omega, Int.le_refl _, rfl, rfl⟩ or.r0
theorem ok_later {r : Row} (or : Fm.Ok r) {x : Int} (x0 : 0 ≤ x) (x1 : x ≤ 199 - r.l) : Fm.Ok (later r x) := ⟨or.f0, by show r.f ≤ r.l + x; have := or.fl; omega, by show r.l + x ≤ 199; omega, or.c1, or.c2, or.r0, or.rc⟩
theorem ok_earlier {r : Row} (or : Fm.Ok r) {x : Int} (x0 : 0 ≤ x) (x1 : x ≤ r.f) : Fm.Ok (earlier r x) := ⟨by show 0 ≤ r.f - x; omega, by show r.f - x ≤ r.l; have := or.fl; omega, or.l1, or.c1, or.c2, or.r0, or.rc⟩
/-- the number borne: both say the same -/
theorem borne_eq {rs : List Row} (ok : Fm.Oks rs) (hne : rs ≠ []) {m n : Int} (h1 : m ∈ (Fm.stretches rs).map (Fm.quo rs)) (h2 : ∀ y ∈ (Fm.stretches rs).map (Fm.quo rs), m ≤ y) (n0 : -1 ≤ n) (n1 : n ≤ 200) (n2 : 0 ≤ n → Fm.Kept rs n) (n3 : n = 200 ∨ ¬ Fm.Kept rs (n + 1)) (m1 : m ≤ 200) : m = n := by
  have m0 : -1 ≤ m := by
    obtain ⟨p, _, rfl⟩ := List.mem_map.mp h1
    exact Fm.quo_ge rs p
  have a : n ≤ m := by
    by_cases h : 0 ≤ n
    · exact (Fm.borne_iff ok h h1 h2).mp (n2 h)
    · omega
  rcases n3 with h | h
  · omega
  · have : ¬ n + 1 ≤ m := fun z => h ((Fm.borne_iff ok (by omega) h1 h2).mpr z)
    omega
theorem quo_le {rs : List Row} (ok : Fm.Oks rs) {p : Int × Int} (h : p ∈ Fm.stretches rs) : Fm.quo rs p ≤ 200 := by
  have st := stretches_st ok h
  have g := Fm.gl_pos ok (Fm.mem_stretches.mp h).2.2.2
  have l := Fm.lefts_nonneg ok p.1 p.2
  unfold Fm.quo
  have : (p.2 - p.1 + 1 - Fm.lefts rs p.1 p.2) / Fm.gl rs p.1 p.2 ≤ 200 := by
    have h1 : p.2 - p.1 + 1 - Fm.lefts rs p.1 p.2 ≤ 200 := by have := st.1; have := st.2.2.2; omega
    by_cases h0 : 0 ≤ p.2 - p.1 + 1 - Fm.lefts rs p.1 p.2
    · exact Int.le_trans (Int.ediv_le_self _ h0) h1
    · have := Int.ediv_neg_of_neg_of_pos (show p.2 - p.1 + 1 - Fm.lefts rs p.1 p.2 < 0 by omega) (show 0 < Fm.gl rs p.1 p.2 by omega)
      omega
  omega
end Fs

set_option Elab.async false
set_option linter.all false
set_option maxRecDepth 100000
set_option maxHeartbeats 4000000
/-! READINGS -/
namespace Fs
open PySem PySem.Spec PyProof.Rows L2 Evl
open LamX NdefX
theorem oth_eq {rs : List Row} {r : Row} {z : Str} (h : r.n ≠ z) : (rs.filter fun q => decide (q.n ≠ z)) ++ [r] = oth rs r z := by
  unfold oth
  rw [List.filter_append, List.filter_cons_of_pos (by simpa using h)]; rfl
theorem rws_oth {rs : List Row} {r : Row} (h : Rws (rs ++ [r])) (z : Str) : Rws (oth rs r z) := h.sub List.filter_sublist
theorem RRow.extN {v : V} {r : Row} {H H' : Hp} (h : RRow v r H) (e : ExtN H H') : RRow v r H' := by obtain ⟨p, a, b⟩ := h; exact ⟨p, a, e _ _ b fun _ z => nomatch z⟩
theorem LsAt.extN {α : Type} {R : RL α} (hR : ∀ v a H H', ExtN H H' → R v a H → R v a H') {v : V} {as : List α} {H H' : Hp} (h : LsAt R v as H) (e : ExtN H H') : LsAt R v as H' := by
  obtain ⟨p, xs, a, b, c⟩ := h
  exact ⟨p, xs, a, e _ _ b (fun _ z => nomatch z), Paired.mapP c fun v a q => hR v a _ _ e q⟩
theorem rowsN {v : V} {rs : List Row} {H H' : Hp} (h : LsAt RRow v rs H) (e : ExtN H H') : LsAt RRow v rs H' := LsAt.extN (R := RRow) (fun _ _ _ _ e q => RRow.extN q e) h e
theorem RKept.extN {p : Pm} {v : V} {q : List Row × Int} {H H' : Hp} (h : RKept p v q H) (e : ExtN H H') : RKept p v q H' := by
  obtain ⟨w, a, dx, u, h1, h2, h3⟩ := h
  exact ⟨w, a, dx, u, h1, e _ _ h2 (fun _ z => nomatch z), h3.extN e⟩
theorem Ref.extN {p : Pm} {vs : List V} {H H' : Hp} {rs : List Row} {k : Int} {r : Row} (h : Ref p vs H rs k r) (e : ExtN H H') : Ref p vs H' rs k r := by
  obtain ⟨v, y, ev, hv, hy, hw⟩ := h
  exact ⟨v, y, ev, hv.extN e, hy.extN e, hw⟩
/-- [e for e in rows if ..] + [row] -/
theorem evr_others {p : Pm} {σ : L2.St} {H : Hp} {ta tr : TE} {tt : TT} {rs : List Row} {r : Row} {z : Str} {j : Nat} {vs : List Nat} {s2 : V → L2.St} {u y : V} (src : EvR ta σ H (NewL RRow rs)) (hl : rs.length ≤ 1000) (hy : EvR tr σ H (fun u => RRow u r)) (hz : r.n ≠ z)
    (e2 : ∀ x, s2 x = (wipe σ vs).set j (some x)) (hw : ∀ x, wipe (s2 x) vs = wipe σ vs) (hj : ∀ x, (s2 x)[j]? = some (some x)) (ht : ∀ x a H1, Ex H H1 → a ∈ rs → RRow x a H1 → EvT tt (s2 x) H1 (decide (a.n ≠ z))) :
    EvR (tOp rCat (tLc (iList p.K ta) (gName j) tt (tVar j) vs) (tLst (tCons tr tNil))) σ H (NewL RRow (oth rs r z)) :=
  evr_cast (oth_eq hz) (evr_cat (evr_cast (by rw [List.map_id']) (evr_lcL (K := p.K) (f := fun a : Row => decide (a.n ≠ z)) (h := fun a => a) rrow_lst.l rrow_lst (s2 := s2) (newL_src src) (by omega) (fun x a H1 _ k hk => by rw [e2] at hk; exact hk) hw ht fun x a H2 _ _ rx _ => evr_var (hj x) (lasts_of rrow_lst.l) rx)) (evr_lst1 hy rrow_lst) rrow_lst (by
    have := List.length_filter_le (fun a : Row => decide (a.n ≠ z)) rs
    rw [List.length_singleton]; omega))
theorem q_asgN {D : Ends} {tz : TS} {σ : L2.St} {H : Hp} {te : TE} {R : RP} {i : Nat} (h : EvN te σ H R) (k : ∀ a H1, H a = none → Ex H H1 → R (.ref a) H1 → tz D (σ.set i (some (.ref a))) H1) : tSeq (tAsg te (gName i)) tz D σ H := h H (Ex.refl H) _ k
theorem rd_law_instead_right (p : Pm) (ok : PmOk p) : Keeps (t_law_instead_right p) ["_law_pieces", "_law_rows", "_law_failings", "_law_row", "_law_due", "_law_one", "_law_left", "_law_other", "_law_told", "_law_name", "_law_paper"] (sp_law_instead_right p) := fun vs H Q E ⟨rs, k, r, v, l, y, ev, hr, hl, hT, hq⟩ => by
  subst ev
  obtain ⟨v', y', ev', hv, hy, hw, hk, hk1, hk2⟩ := id hr
  have e1 : v = v' := (List.cons.inj ev').1
  have e2 : y = y' := (List.cons.inj (List.cons.inj (List.cons.inj ev').2).2).1
  subst e1; subst e2
  have hrl : rs.length ≤ 30 := by have := hw.len; rw [List.length_append, List.length_singleton] at this; omega
  have hnr : ∀ q ∈ rs, r.n ≠ q.n := fun q hq' e => by
    have nd := hw.nd
    rw [List.map_append, List.nodup_append] at nd
    exact nd.2.2 _ (List.mem_map.mpr ⟨q, hq', rfl⟩) _ (by simp) e.symm
  have hrw : Rws rs := hw.sub (List.sublist_append_left rs [r])
  refine q_new fun D hD => ?_
  have eD : Ex H (upd H D (.lst [])) := Ex.new hD
  have hD1 : (upd H D (.lst []) : Hp) D = some (.lst []) := upd_same
  have hl1 := lsAt_ex rrow_lst hl eD
  have hr1 := hr.mono eD
  obtain ⟨al, xsl, eal, hal, hxl⟩ := id hl1
  have neD : ∀ a, l = .ref a → a ≠ D := fun a ea => by
    obtain ⟨b, xs, eb, hb, _⟩ := hl
    rw [ea] at eb; cases eb
    exact ne_of_none hb hD
  refine acc_forV (D := { nx := _, rt := Q }) (a := al) (as := rs) (Dl := D) (bs := []) (RB := RStr) (f := fun q => if Fm.kept (oth rs r q.n) k = true then [q.n] else [])
    (Sl := fun σ => ∃ y5 y6, σ = [some v, some l, some (.int k), some y, some (.ref D), y5, y6, none, none, none, none]) rrow_lst rstr_lst (by rw [eal]; rfl) hal hxl (neD al eal) (acc_nil hD1) ⟨_, _, rfl⟩
    (fun x q σ' H' cs hq' rx ⟨y5, y6, es⟩ eB A hcl N hN => ?_) fun σ' H' ⟨y5, y6, es⟩ eB A => ?_
  · subst es
    have hl' := lsAt_b rrow_lst hl1 hD1 neD eB
    have hy' : RRow y r H' := rrow_lst.b hD1 eB (rrow_lst.l _ _ _ _ eD hy)
    have hoth : EvR (tOp rCat (tLc (iList p.K (tVar 1)) (gName 7) (tTest (tOp (rNeD p.K) (tVar 7) (tVar 5))) (tVar 7) [7]) (tLst (tCons (tVar 3) tNil))) [some v, some l, some (.int k), some y, some (.ref D), some x, y6, none, none, none, none] H' (NewL RRow (oth rs r q.n)) :=
      evr_others (p := p) (u := x) (y := y) (s2 := fun w => [some v, some l, some (.int k), some y, some (.ref D), some x, y6, some w, none, none, none]) (evr_ls rrow_lst hl' rfl) (by omega) (evr_var rfl (lasts_of rrow_lst.l) hy') (hnr q hq') (fun x => rfl) (fun x => rfl) (fun x => rfl) fun w a H1 e1 ha rw' =>
        et_is (et_neRow (ev_var rfl) (ev_var rfl) rw' (rrow_lst.l _ _ _ _ e1 rx) (hrw.nm a ha) (hrw.nm q hq')) (by
          by_cases h : a = q
          · rw [h]; simp
          · have : a.n ≠ q.n := fun z => h (names_inj hrw.nd ha hq' z)
            simp [h, this])
    refine q_asgR hoth fun u H4 e4 hu => ?_
    have A4 := A.ex rstr_lst e4
    have oo := rws_oth hw q.n
    have hol : (oth rs r q.n).length ≤ 100 := by have := oo.len; omega
    obtain ⟨c, rfl, hc⟩ := id rx
    refine s_when (et_is (et_test (ev_isKept (evr_ls rrow_lst hu rfl) (ev_var rfl) hol oo.ok hk)) (by rw [← lawShort_kept oo.ok]; cases Fm.lawShort (oth rs r q.n) k <;> rfl : _ = Fm.kept (oth rs r q.n) k)) (fun hb H5 e5 => ?_) fun hb H5 e5 => hN _ _ ⟨_, _, rfl⟩ (ExB.of (e4.trans e5)) (by rw [if_neg (by rw [hb]; decide), List.append_nil]; exact A4.ex rstr_lst e5)
    refine acc_app rstr_lst (A4.ex rstr_lst e5) (i := 4) rfl (evr_ev (v := .str q.n) (ev_ixT (i := 0) (ev_var rfl) (e5 _ _ (e4 _ _ hc)) rfl)) ?_ fun H6 e6 A6 => hN _ _ ⟨_, _, rfl⟩ ((ExB.of (e4.trans e5)).trans e6) (by rw [if_pos hb]; exact A6)
    have b1 := flat_len (n := 1) (f := fun q : Row => if Fm.kept (oth rs r q.n) k = true then [q.n] else []) rs fun a => by split <;> simp
    rw [List.nil_append] at hcl
    omega
  · subst es
    have eH : Ex H H' := ExB.back eD eB hD
    have hr2 := hr.mono eH
    have hdue : ([] : List Str) ++ rs.flatMap (fun q => if Fm.kept (oth rs r q.n) k = true then [q.n] else []) = due rs r k := by
      rw [List.nil_append, flat_if (fun q : Row => Fm.kept (oth rs r q.n) k) (fun q : Row => q.n)]
      unfold due
      rw [List.filter_map]; rfl
    rw [hdue] at A
    have hDue : LsAt RStr (.ref D) (due rs r k) H' := by obtain ⟨ys, h1, h2⟩ := A; exact ⟨D, ys, rfl, h1, h2⟩
    have dnm : ∀ z ∈ due rs r k, Nm z := fun z hz => by
      obtain ⟨q, hq', e⟩ := List.mem_map.mp (List.mem_filter.mp hz).1
      rw [← e]; exact hrw.nm q hq'
    have duel : (due rs r k).length ≤ 30 := by
      unfold due
      have := List.length_filter_le (fun z => Fm.kept (oth rs r z) k) (rs.map (·.n))
      rw [List.length_map] at this; omega
    have hins : ∀ {σ : L2.St} {H2 : Hp}, σ[0]? = some (some v) → σ[2]? = some (some (.int k)) → σ[3]? = some (some y) → Ref p [v, .int k, y] H2 rs k r → EvN (tCall (sp_instead_of p) [] E0 (tCons (tVar 0) (tCons (tVar 2) (tCons (tVar 3) tNil)))) σ H2 (NewL (RTold p rs r k) (due rs r k)) := fun h0 h2 h3 hR =>
      evn_call (ea_cons (ev_var h0) (ea_cons (ev_var h2) (ea_cons (ev_var h3) ea_nil))) fun H3 e => ⟨rs, k, r, hR.mono e, rfl⟩
    refine q_asgN (hins rfl rfl rfl hr2) fun ta H4 hnt e4 htu => ?_
    obtain ⟨ta', txs, eta, hta, htx⟩ := id htu
    cases eta
    have names : ∀ {σ : L2.St} {H5 : Hp} {te : TE} {s2 : V → L2.St}, EvR te σ H5 (NewL (RTold p rs r k) (due rs r k)) → (∀ x, s2 x = (wipe σ [5]).set 5 (some x)) → (∀ x, wipe (s2 x) [5] = wipe σ [5]) → (∀ x, (s2 x)[5]? = some (some x)) →
        EvR (tLc (iList p.K te) (gName 5) tYes (tOp (rIxT p.K) (tVar 5) (tC (.int 0))) [5]) σ H5 (NewL RStr (due rs r k)) := fun {σ H5 te s2} h e2 hw' hj =>
      evr_cast (by rw [filter_true, List.map_id']) (evr_lcL (K := p.K) (f := fun _ => true) (h := fun z : Str => z) (rtold_lst p rs r k).l rstr_lst (s2 := s2) (newL_src h) (by omega) (fun x a H1 _ k hk => by rw [e2] at hk; exact hk) hw' (fun _ _ _ _ _ _ => et_yes) fun x a H2 _ _ ⟨c, u, ec, hx, _⟩ _ => by subst ec; exact evr_ev (ev_ixT (i := 0) (ev_var (hj _)) hx rfl))
    refine q_skip (et_is (et_or (et_not (et_B (isi_lst (ev_var rfl) hta))) fun _ => et_neL (dat_str p.K) rstr_lst (names (te := tVar 8) (s2 := fun w => [some v, some l, some (.int k), some y, some (.ref D), some w, y6, none, some (.ref ta), none, none]) (evr_ls (rtold_lst p rs r k) htu rfl) (fun x => rfl) (fun x => rfl) fun x => rfl) (evr_ls rstr_lst (lsAt_ex rstr_lst hDue e4) rfl) dnm dnm) (by simp)) fun H5 e5 => ?_
    have e45 := e4.trans e5
    have h5N : ExtN H H5 := ExtN.of (eH.trans e45)
    have T5 : Tabs p.T H5 := (hT.ext eH).ext e45
    have hta5 := e5 _ _ hta
    have hl5 : LsAt RRow l rs H5 := lsAt_ex rrow_lst hl (eH.trans e45)
    have hy5 : RRow y r H5 := rrow_lst.l _ _ _ _ (eH.trans e45) hy
    have htx5 := htx.mono (rtold_lst p rs r k).l e5
    refine ⟨.ref ta, rfl, ta, rfl, ⟨txs, sq_of hta5⟩, ?_⟩
    refine for_list (xs := txs) (D := { nx := _, rt := Q }) (fun i σ H' => (∃ y5 y6 y9 y10, σ = [some v, some l, some (.int k), some y, some (.ref D), y5, y6, none, some (.ref ta), y9, y10]) ∧ ExtN H5 H' ∧ Tabs p.T H')
      ⟨⟨_, _, _, _, rfl⟩, fun _ _ h _ => h, T5⟩ (fun i σ H' _ ⟨_, e, _⟩ => sq_of (e _ _ hta5 fun _ z => nomatch z)) (fun i x σ H' hi ⟨⟨z5, z6, z9, z10, es⟩, eN, T6⟩ => ?_) (fun σ H' ⟨⟨z5, z6, z9, z10, es⟩, eN, T6⟩ => ?_)
    · subst es
      obtain ⟨z, hz, c, u, ec, hc, hkp⟩ := htx5.get hi
      subst ec
      have hzm := List.mem_of_getElem? hz
      have hkept : Fm.kept (oth rs r z) k = true := (List.mem_filter.mp hzm).2
      obtain ⟨zq, hzq, ezq⟩ := List.mem_map.mp (List.mem_filter.mp hzm).1
      have hc6 := eN _ _ hc fun _ w => nomatch w
      have kp6 := hkp.extN eN
      have oo := rws_oth hw z
      obtain ⟨_, pa, pdx, pu, epu, hpa, hpu⟩ := id kp6
      refine ⟨c, _, rfl, st_of hc6, rfl, .str z, _, rfl, u, [], rfl, rfl, ?_⟩
      have mt : ∀ {m : Str} {pre : Pre} {R : RP} {H7 : Hp} , Ex H' H7 → (∀ H8, Ex H7 H8 → pre [u] H8 R) → (([("held", pu), ("most", V.int k)] : List (Str × V)).lookup m = none) → EvR (tMeth p.CK m (spP pre) [] E0 (tVar 10) tNil) [some v, some l, some (.int k), some y, some (.ref D), z5, z6, none, some (.ref ta), some (.str z), some u] H7 R := fun {m pre R H7} e h hm =>
        evr_meth (vs := []) (by rw [epu]; exact ev_var rfl) (e _ _ hpa) hm ea_nil (by rw [← epu]; exact h)
      refine q_skip (et_is (et_or (et_test (ev_op (ev_evr (mt (m := "word") (R := Is (.str "kept")) (Ex.refl _) (fun H8 e8 => ⟨u, _, rfl, (rkept_lst p).l _ _ _ _ e8 kp6, rfl⟩) rfl)) ev_c (rv_ne rfl))) fun _ => et_or (et_test (b := false) (ev_op (ev_evr (mt (m := "holds") (R := Is (.bl (Fm.kept (oth rs r z) k))) (Ex.refl _) (fun H8 e8 => ⟨u, (oth rs r z, k), rfl, (rkept_lst p).l _ _ _ _ e8 kp6, rfl⟩) rfl)) ev_c fun H8 _ Q' q' => ⟨_, true, rfl, rfl, by rw [hkept]; exact q' H8 (Ex.refl H8)⟩)) fun _ => et_test (ev_op (ev_evr (mt (m := "failings") (R := Is (.int k)) (Ex.refl _) (fun H8 e8 => ⟨u, (oth rs r z, k), rfl, (rkept_lst p).l _ _ _ _ e8 kp6, rfl⟩) rfl)) (ev_var rfl) (rv_ne rfl))) (by simp)) fun H7 e7 => ?_
      have hl7 := lsAt_ex rrow_lst (rowsN hl5 eN) e7
      have hy7 := rrow_lst.l _ _ _ _ e7 (hy5.extN eN)
      have hoth : EvR (tOp rCat (tLc (iList p.K (tVar 1)) (gName 7) (tTest (tOp rNe (tOp (rIxT p.K) (tVar 7) (tC (.int 0))) (tVar 9))) (tVar 7) [7]) (tLst (tCons (tVar 3) tNil))) [some v, some l, some (.int k), some y, some (.ref D), z5, z6, none, some (.ref ta), some (.str z), some u] H7 (NewL RRow (oth rs r z)) :=
        evr_others (p := p) (u := u) (y := y) (s2 := fun w => [some v, some l, some (.int k), some y, some (.ref D), z5, z6, some w, some (.ref ta), some (.str z), some u]) (evr_ls rrow_lst hl7 rfl) (by omega) (evr_var rfl (lasts_of rrow_lst.l) hy7) (by rw [← ezq]; exact hnr zq hzq) (fun x => rfl) (fun x => rfl) (fun x => rfl) fun w a H1 e1 ha ⟨b, eb, hb⟩ => by
          subst eb
          exact et_is (et_test (ev_op (ev_ixT (i := 0) (ev_var rfl) hb rfl) (ev_var rfl) (rv_ne rfl))) (by by_cases h : a.n = z <;> simp [h])
      refine q_asgR hoth fun w H8 e8 hw8 => ?_
      have kp8 := (rkept_lst p).l _ _ _ _ (e7.trans e8) kp6
      have T8 := (T6.ext e7).ext e8
      have hpa8 := e8 _ _ (e7 _ _ hpa)
      -- order({}) inside the test
      show tNot (tB (tCall (sp_law_order_right p) [] E0 (tCons (tVar 6) (tCons (tMeth p.CK "order" (sp_Kept_order p) [] E0 (tVar 10) (tCons tDNewK tNil)) tNil)))) _ H8 _
      refine ⟨w, rfl, u, rfl, pa, pdx, _, epu, hpa8, rfl, fun d hd => ?_⟩
      have ed : Ex H8 (upd H8 d (.dK [])) := Ex.new hd
      refine ⟨u, (oth rs r z, k), d, by rw [epu]; rfl, (rkept_lst p).l _ _ _ _ ed kp8, ((Fm.kept_iff oo.ok).mp hkept).fewer hk.1, upd_same, T8.ext ed, fun ou H9 o eN9 T9 O ho => ?_⟩
      have N89 : ExtN H8 H9 := (ExtN.of ed).trans eN9
      refine ⟨Is (.bl true), ⟨w, oth rs r z, ou, o, rfl, rowsN hw8 N89, ho, O, rfl⟩, fun b H10 e10 eb => ⟨true, eb, ?_⟩⟩
      show (if (!true) = true then _ else _)
      rw [if_neg (by decide)]
      exact ⟨⟨_, _, _, _, rfl⟩, ((eN.trans (ExtN.of (e7.trans e8))).trans N89).trans (ExtN.of e10), T9.ext e10⟩
    · subst es
      have N6 := h5N.trans eN
      have hta6 := eN _ _ hta5 fun _ z => nomatch z
      refine q_appR (R := fun _ _ => True) hta6 (ev_var rfl) ((evr_tupA (ea_cons ev_c (ea_cons ev_c ea_nil)) (by simp)).imp fun _ _ _ _ => trivial) (by rw [htx5.length]; omega) fun tv H7 e7 _ => ?_
      have hHt : H ta = none := fresh_back eH hnt
      have NF : ExtN H (upd H7 ta (.lst (txs ++ [tv]))) := fun b o h n => (upd_ne (ne_of_none h hHt)).trans (e7 _ _ (N6 b o h n))
      have TF : Tabs p.T (upd H7 ta (.lst (txs ++ [tv]))) := fun q hq' => by
        obtain ⟨ps, g1, g2, g3⟩ := (T6.ext e7) q hq'
        have hta7 := e7 _ _ hta6
        refine ⟨ps, (upd_ne fun z => by rw [z, hta7] at g1; cases g1).trans g1, g2, fun q2 cv hcv => ?_⟩
        obtain ⟨c0, e1, e2⟩ := g3 q2 cv hcv
        exact ⟨c0, e1, (upd_ne fun z => by rw [z, hta7] at e2; cases e2).trans e2⟩
      have hDt : D ≠ ta := by
        obtain ⟨D', ys, eD', g1, _⟩ := hDue
        cases eD'
        exact ne_of_none g1 hnt
      have hDueF : LsAt RStr (.ref D) (due rs r k) (upd H7 ta (.lst (txs ++ [tv]))) := by
        obtain ⟨D', ys, eD', g1, g2⟩ := hDue
        cases eD'
        refine ⟨D, ys, rfl, (upd_ne hDt).trans (e7 _ _ (eN _ _ (e5 _ _ (e4 _ _ g1)) fun _ z => nomatch z)), g2⟩
      have hrF := hr.extN NF
      refine s_ret (v := .bl true) (ev_is (ev_eqL (dat_str p.K) rstr_lst (names (te := tCall (sp_instead_of p) [] E0 (tCons (tVar 0) (tCons (tVar 2) (tCons (tVar 3) tNil)))) (s2 := fun w => [some v, some l, some (.int k), some y, some (.ref D), some w, z6, none, some (.ref ta), z9, z10]) (hins rfl rfl rfl hrF).r (fun x => rfl) (fun x => rfl) fun x => rfl) (evr_ls rstr_lst hDueF rfl) dnm dnm) (by simp)) fun H8 e8 => hq H8 (NF.trans (ExtN.of e8)) (TF.ext e8)
end Fs

set_option Elab.async false
set_option linter.all false
set_option maxRecDepth 100000
set_option maxHeartbeats 4000000
/-! READINGS -/
namespace Fs
open PySem PySem.Spec PyProof.Rows L2 Evl
open LamX NdefX
theorem q_mustX {p : Pm} {D : Ends} {tz tu : TS} {σ : L2.St} {H : Hp} {te : TE} (h : ∀ Q : VK, (∀ H', ExtN H H' → Tabs p.T H' → Q (.bl true) H') → te σ H Q) (k : ∀ H', ExtN H H' → Tabs p.T H' → tz D σ H') : tSeq (tIfS (tNot (tB te)) tu tNext) tz D σ H :=
  h _ fun H' e T => ⟨true, rfl, k H' e T⟩
theorem s_mustX {p : Pm} {D : Ends} {tu : TS} {σ : L2.St} {H : Hp} {te : TE} (h : ∀ Q : VK, (∀ H', ExtN H H' → Tabs p.T H' → Q (.bl true) H') → te σ H Q) (k : ∀ H', ExtN H H' → Tabs p.T H' → D.nx σ H') : tIfS (tNot (tB te)) tu tNext D σ H :=
  h _ fun H' e T => ⟨true, rfl, k H' e T⟩
theorem pcN {p : Pm} {v : V} {rs : List Row} {H H' : Hp} (c : RPc p v rs H) (h : ExtN H H') : RPc p v rs H' := c.extN h
theorem intsN {v : V} {ns : List Int} {H H' : Hp} (h : LsAt RInt v ns H) (e : ExtN H H') : LsAt RInt v ns H' := LsAt.extN (R := RInt) (fun _ _ _ _ _ q => q) h e
theorem evr_numbers {p : Pm} {σ : L2.St} {H : Hp} {t1 t2 t3 t4 t5 t6 : TE} {v y : V} {rs : List Row} {k pl st most : Int} {r : Row} {mv : Int → Row} (h1 : Ev t1 σ H v) (h2 : Ev t2 σ H (.int k)) (h3 : Ev t3 σ H y) (h4 : Ev t4 σ H (.int pl)) (h5 : Ev t5 σ H (.int st)) (h6 : Ev t6 σ H (.int most)) (hv : LsAt RRow v rs H) (hl : rs.length ≤ 50) (ok : Fm.Oks rs) (hy : RRow y r H) (hk : K3 k) (hm : 0 ≤ most ∧ most ≤ 200)
    (hc : (pl = 2 ∧ st = 1 ∧ mv = later r) ∨ (pl = 1 ∧ st = -1 ∧ mv = earlier r)) (hok : ∀ t, 1 ≤ t → t ≤ most → Fm.Ok (mv t)) : EvR (tCall (sp_law_numbers p) [] E0 (tCons t1 (tCons t2 (tCons t3 (tCons t4 (tCons t5 (tCons t6 tNil))))))) σ H (NewL RInt (law_nums rs k mv most)) :=
  evr_call (ea_cons h1 (ea_cons h2 (ea_cons h3 (ea_cons h4 (ea_cons h5 (ea_cons h6 ea_nil)))))) fun H1 e => ⟨v, rs, k, y, r, pl, st, most, mv, rfl, lsAt_ex rrow_lst hv e, hl, ok, rrow_lst.l _ _ _ _ e hy, hk, hm, hc, hok, rfl⟩
theorem nums_kept {rs : List Row} {k most : Int} {mv : Int → Row} (ok : Fm.Oks rs) (hok : ∀ t, 1 ≤ t → t ≤ most → Fm.Ok (mv t)) : law_nums rs k mv most = (turnsTo most).filter fun t => Fm.kept (rs ++ [mv t]) k := by
  unfold law_nums
  refine List.filter_congr fun t ht => ?_
  unfold turnsTo at ht
  obtain ⟨i, hi, rfl⟩ := List.mem_map.mp ht
  have := List.mem_range.mp hi
  exact lawShort_kept (oks_snoc ok (hok _ (by omega) (by omega))) k
theorem evr_tupleOf {K : PySem.W.Frag} {σ : L2.St} {H : Hp} {te : TE} {α : Type} {R : RL α} {as : List α} (h : EvR te σ H (NewL R as)) (l : Lst R) : EvR (tCB (rTupleOf K) (tCons te tNil)) σ H (NewT R as) := fun H1 e Q q =>
  h H1 e _ fun v H2 e2 ⟨p, xs, ev, hp, ar⟩ => ⟨p, xs, by rw [ev], Or.inl ⟨sq_of hp, fun t ht => q _ _ (e2.trans (Ex.new ht)) ⟨t, xs, rfl, upd_same, ar.mono l.l (Ex.new ht)⟩⟩⟩
theorem rd_law_right (p : Pm) (ok : PmOk p) : Keeps (t_law_right p) ["_law_rows", "_law_failings", "_law_row", "_law_pieces", "_law_later", "_law_earlier", "_law_found"] (sp_law_right p) := fun vs H Q E ⟨rs, qs, k, r, l, y, ev, hl, hy, P, hr, k0, k1, hT, hq⟩ => by
  subst ev
  obtain ⟨hw, hnk⟩ := P.qs r hr
  have oks : Fm.Oks (rs ++ [r]) := hw.ok
  have or : Fm.Ok r := oks r (by simp)
  have ok0 : Fm.Oks rs := P.wf.ok
  have hk : K3 k := ⟨k0, by omega⟩
  have hk1 : Fm.kept rs k = true := (Fm.kept_iff ok0).mpr P.kept
  have hk2 : Fm.kept (rs ++ [r]) k = false := by
    cases h : Fm.kept (rs ++ [r]) k with
    | false => rfl
    | true => exact absurd ((Fm.kept_iff oks).mp h) hnk
  have rl : rs.length ≤ 7 := P.le
  refine q_asgR (evr_mkPc (evr_ls rrow_lst hl rfl) P.wf) fun v H1 e1 hv => ?_
  have T1 := hT.ext e1
  have hl1 := lsAt_ex rrow_lst hl e1
  have hy1 := rrow_lst.l _ _ _ _ e1 hy
  have hR1 : Ref p [v, .int k, y] H1 rs k r := ⟨v, y, rfl, hv, hy1, hw, hk, hk1, hk2⟩
  obtain ⟨b, eb, hb⟩ := id hy1
  subst eb
  have hokL : ∀ t, 1 ≤ t → t ≤ 199 - r.l → Fm.Ok (later r t) := fun t t0 t1 => ok_later or (by omega) t1
  have hokE : ∀ t, 1 ≤ t → t ≤ r.f → Fm.Ok (earlier r t) := fun t t0 t1 => ok_earlier or (by omega) t1
  have l199 := or.l1
  have lf := or.fl
  have f0 := or.f0
  refine q_asgR (evr_numbers (pl := 2) (st := 1) (most := 199 - r.l) (mv := later r) (ev_var rfl) (ev_var rfl) (ev_var rfl) ev_c ev_c (ev_op ev_c (ev_ixT (i := 2) (ev_var rfl) hb rfl) rv_I0) hl1 (by omega) ok0 hy1 hk ⟨by omega, by omega⟩ (.inl ⟨rfl, rfl, rfl⟩) hokL) fun w H2 e2 hwn => ?_
  have T2 := T1.ext e2
  have hR2 := hR1.mono e2
  have hb2 := e2 _ _ hb
  refine q_mustX (p := p) (fun Q' q' => ?_) fun H3 N3 T3 => ?_
  · refine ⟨v, rfl, .int k, rfl, .ref b, rfl, rs, k, r, hR2, T2, fun u H4 N4 T4 hLe => ?_⟩
    have hb4 := N4 _ _ hb2 fun _ z => nomatch z
    refine ⟨w, rfl, ?_⟩
    refine (ev_op (r := rSubI) (ta := tC (.int 199)) (tb := tOp (rIxT p.K) (tVar 2) (tC (.int 2))) (x := .int 199) (y := .int r.l) (σ := [some l, some (.int k), some (.ref b), some v, some w, none, none]) (H := H4) ev_c (ev_ixT (i := 2) (ev_var rfl) hb4 rfl) rv_I0) H4 (Ex.refl H4) _ fun H5 e5 => ?_
    have hF := fits_of (found := law_nums rs k (later r) (199 - r.l)) hLe (mono_later k0 oks) (nums_kept ok0 hokL)
    refine ⟨Is (.bl true), ⟨u, w, _, 199 - r.l, rfl, lsAt_ex rint_lst (intsN hwn N4) e5, ?_, by omega, rfl⟩, fun c H6 e6 ec => by rw [ec]; exact q' H6 (N4.trans (ExtN.of (e5.trans e6))) ((T4.ext e5).ext e6)⟩
    rcases hF with h | ⟨h, a, x, z, h1, h2, h3⟩
    · exact .inl h
    · exact .inr ⟨h, a, x, z, h1, e5 _ _ h2, h3⟩
  have hl3 := rowsN (lsAt_ex rrow_lst hl1 e2) N3
  have hb3 := N3 _ _ hb2 fun _ z => nomatch z
  have hy3 : RRow (.ref b) r H3 := ⟨b, rfl, hb3⟩
  have hR3 := hR2.extN N3
  refine q_asgR (evr_numbers (pl := 1) (st := -1) (most := r.f) (mv := earlier r) (ev_var rfl) (ev_var rfl) (ev_var rfl) ev_c (ev_op ev_c ev_c rv_I0) (ev_ixT (i := 1) (ev_var rfl) hb3 rfl) hl3 (by omega) ok0 hy3 hk ⟨by omega, by omega⟩ (.inr ⟨rfl, rfl, rfl⟩) hokE) fun w2 H4 e4 hwn2 => ?_
  have T4 := T3.ext e4
  have hR4 := hR3.mono e4
  have hb4 := e4 _ _ hb3
  refine q_mustX (p := p) (fun Q' q' => ?_) fun H5 N5 T5 => ?_
  · refine ⟨v, rfl, .int k, rfl, .ref b, rfl, rs, k, r, v, .ref b, rfl, hR4, T4, fun u H6 N6 T6 hLe => ?_⟩
    rw [Int.sub_zero] at hLe
    have hb6 := N6 _ _ hb4 fun _ z => nomatch z
    refine ⟨w2, rfl, ?_⟩
    refine (ev_ixT (K := p.K) (i := 1) (v := .int r.f) (ta := tVar 2) (σ := [some l, some (.int k), some (.ref b), some v, some w, some w2, none]) (H := H6) (ev_var rfl) hb6 rfl) H6 (Ex.refl H6) _ fun H7 e7 => ?_
    have hF := fits_of (found := law_nums rs k (earlier r) r.f) hLe (by have := mono_earlier (rs := rs) k0 oks; rw [Int.sub_zero] at this; exact this) (nums_kept ok0 hokE)
    refine ⟨Is (.bl true), ⟨u, w2, _, r.f, rfl, lsAt_ex rint_lst (intsN hwn2 N6) e7, ?_, by omega, rfl⟩, fun c H8 e8 ec => by rw [ec]; exact q' H8 (N6.trans (ExtN.of (e7.trans e8))) ((T6.ext e7).ext e8)⟩
    rcases hF with h | ⟨h, a, x, z, h1, h2, h3⟩
    · exact .inl h
    · exact .inr ⟨h, a, x, z, h1, e7 _ _ h2, h3⟩
  have hR5 := hR4.extN N5
  have hl5 := rowsN (lsAt_ex rrow_lst hl3 e4) N5
  have hb5 := N5 _ _ hb4 fun _ z => nomatch z
  have hy5 : RRow (.ref b) r H5 := ⟨b, rfl, hb5⟩
  refine q_asgR (evr_call (R := Borne (rs ++ [r])) (pre := fun vs H R => ∃ rs k r, Ref p vs H rs k r ∧ R = Borne (rs ++ [r])) (ea_cons (ev_var rfl) (ea_cons (ev_var rfl) (ea_cons (ev_var rfl) ea_nil))) fun H6 e6 => ⟨rs, k, r, hR5.mono e6, rfl⟩) fun mu H6 e6 ⟨m, emu, m1, m2⟩ => ?_
  subst emu
  have m200 : m ≤ 200 := by
    obtain ⟨q, hq', e⟩ := List.mem_map.mp m1
    rw [← e]; exact quo_le oks hq'
  have mk : m < k := by
    have := (Fm.borne_iff oks k0 m1 m2)
    by_cases h : k ≤ m
    · exact absurd (this.mpr h) hnk
    · omega
  have hl6 := lsAt_ex rrow_lst hl5 e6
  have hy6 := rrow_lst.l _ _ _ _ e6 hy5
  have hbo : Ev (tCall (sp_law_borne p) [] E0 (tCons (tOp rCat (tVar 0) (tLst (tCons (tVar 2) tNil))) tNil)) [some l, some (.int k), some (.ref b), some v, some w, some w2, some (.int m)] H6 (.int m) := ev_evr (evr_callR (P := fun us H' => ∃ u, us = [u] ∧ LsAt RRow u (rs ++ [r]) H') (ear_1 (evr_cat (evr_ls rrow_lst hl6 rfl) (evr_lst1 (evr_var rfl (lasts_of rrow_lst.l) hy6) rrow_lst) rrow_lst (by rw [List.length_singleton]; omega)) (newL_lasts rrow_lst _))
    fun us H7 e7 ⟨u, eu, hu⟩ => ⟨u, rs ++ [r], eu, hu, by rw [List.length_append, List.length_singleton]; omega, oks, by
      funext x Hx
      refine propext ⟨fun h => ?_, fun h => ?_⟩
      · exact ⟨m, h, by
          obtain ⟨q, _, e⟩ := List.mem_map.mp m1
          rw [← e]; exact Fm.quo_ge _ _, m200, fun m0 => (Fm.borne_iff oks m0 m1 m2).mpr (Int.le_refl _), by
          by_cases h2 : m = 200
          · exact .inl h2
          · refine .inr fun z => ?_
            have m0 : -1 ≤ m := by
              obtain ⟨q, _, e⟩ := List.mem_map.mp m1
              rw [← e]; exact Fm.quo_ge _ _
            have := (Fm.borne_iff oks (show 0 ≤ m + 1 by omega) m1 m2).mp z
            omega⟩
      · obtain ⟨n, en, n0, n1, n2, n3⟩ := h
        rw [borne_eq oks (by simp) m1 m2 n0 n1 n2 n3 m200]; exact en⟩)
  refine q_skip (et_is (et_or (et_not (et_B (isi_int (ev_var rfl)))) fun _ => et_or (et_B (isi_bool (ev_var rfl))) fun _ => et_or (et_test (ev_op (ev_var rfl) hbo (rv_ne rfl))) fun _ => et_test (ev_op (ev_var rfl) (ev_var rfl) rv_I0)) (by
    have : ¬ k ≤ m := by omega
    simp [this])) fun H7 e7 => ?_
  have e67 := e6.trans e7
  have N7 : ExtN H H7 := (((ExtN.of (e1.trans e2)).trans N3).trans (ExtN.of e4)).trans (N5.trans (ExtN.of e67))
  have T7 := (T5.ext e6).ext e7
  refine ⟨v, rfl, l, rfl, .int k, rfl, .ref b, rfl, rs, k, r, v, l, .ref b, rfl, hR5.mono e67, lsAt_ex rrow_lst hl5 e67, T7, fun H8 N8 T8 => ⟨true, rfl, ?_⟩⟩
  have hR8 := (hR5.mono e67).extN N8
  obtain ⟨v', y', ev', hv', _⟩ := hR8
  have ev'' : v = v' := (List.cons.inj ev').1
  subst ev''
  have hl8 := rowsN (lsAt_ex rrow_lst hl5 e67) N8
  have heq : Ev (tOp (rEqD p.K) (tMeth p.CP "told" (sp_Pieces_told p) [] E0 (tVar 3) tNil) (tCB (rTupleOf p.K) (tCons (tVar 0) tNil))) [some l, some (.int k), some (.ref b), some v, some w, some w2, some (.int m)] H8 (.bl true) := fun H9 e9 Q' q' =>
    (evr_told (p := p) (te := tVar 3) (σ := [some l, some (.int k), some (.ref b), some v, some w, some w2, some (.int m)]) (ev_var rfl) hv') H9 e9 _ fun u H10 e10 ⟨a1, xs1, eu1, ha1, hx1⟩ => (evr_tupleOf (K := p.K) (te := tVar 0) (σ := [some l, some (.int k), some (.ref b), some v, some w, some w2, some (.int m)]) (evr_ls rrow_lst (lsAt_ex rrow_lst hl8 (e9.trans e10)) rfl) rrow_lst) H10 (Ex.refl H10) _ fun u2 H11 e11 ⟨a2, xs2, eu2, ha2, hx2⟩ =>
      ⟨.tuple (rs.map rowD), .tuple (rs.map rowD), by rw [eu1]; exact (dat_row p.K).dpT (e11 _ _ ha1) (hx1.mono rrow_lst.l e11), by rw [eu2]; exact (dat_row p.K).dpT ha2 hx2, (dat_row p.K).shapeT _ (fun r hr => P.wf.nm r hr), (dat_row p.K).shapeT _ (fun r hr => P.wf.nm r hr), by rw [(dat_row p.K).eqT, decide_eq_true rfl]; exact q' H11 (e10.trans e11)⟩
  show (if true = true then _ else _)
  rw [if_pos rfl]
  exact heq H8 (Ex.refl H8) _ fun H9 e9 => hq H9 ((N7.trans N8).trans (ExtN.of e9)) (T8.ext e9)
end Fs

set_option Elab.async false
set_option linter.all false
set_option maxRecDepth 100000
set_option maxHeartbeats 4000000
/-! READINGS -/
namespace Fs
open PySem PySem.Spec PyProof.Rows L2 Evl
open LamX NdefX
theorem sqL_N {K : PySem.W.Frag} {H H' : Hp} {a : Addr} {xs : List V} (h : SqL K H a xs) (e : ExtN H H') : SqL K H' a xs := by
  rcases h with h | h
  · rcases h with h | ⟨o, h⟩
    · exact .inl (.inl (e _ _ h fun _ z => nomatch z))
    · exact .inl (.inr ⟨o, e _ _ h fun _ z => nomatch z⟩)
  · exact .inr h
theorem dr_takeJ {p : Pm} {σ : L2.St} {q : Addr} {n1 : Nat} {M : Int} {j : Nat} (h0 : σ[j]? = some (some (.ref q))) (h1 : 1 ≤ M) (hM : M ≤ 1000) : Dr (tCall (sp_law_take p) [] E0 (tCons (tVar j) (tCons (tC (.int M)) tNil))) σ q (n1 + 1) n1 (RI 0 (M - 1)) := fun H b Q k =>
  ⟨.ref q, h0, q, M, n1, rfl, b, h1, hM, fun w H2 e2 b2 w0 w1 => k _ H2 e2 b2 ⟨w, rfl, w0, by omega⟩⟩
theorem cut_mem {xs : List V} {lo hi : Option Int} {x : V} (h : x ∈ cutV xs lo hi) : x ∈ xs := by
  unfold cutV at h
  exact List.mem_of_mem_drop (List.mem_of_mem_take h)
theorem rd_law (p : Pm) (ok : PmOk p) : Keeps (t_law p) ["_law_script", "_law_k", "_law_box_here", "_law_failings", "_law_rows", "_law_refused", "_law_row"] (sp_law p) := fun vs H Q E ⟨a, ns, ev, hs, hn, hT, hq⟩ => by
  subst ev
  have hlen : Ev (tCB (Evl.rLenS p.K) (tCons (tVar 0) tNil)) (start ["_law_script", "_law_k", "_law_box_here", "_law_failings", "_law_rows", "_law_refused", "_law_row"] [.ref a]) H (.int (ns.length : Int)) := by
    have := ev_len (K := p.K) (ta := tVar 0) (σ := start ["_law_script", "_law_k", "_law_box_here", "_law_failings", "_law_rows", "_law_refused", "_law_row"] [.ref a]) (H := H) (ev_var rfl) hs
    rw [List.length_map] at this; exact this
  have hmin : Ev (tCB rMin2 (tCons (tCB (Evl.rLenS p.K) (tCons (tVar 0) tNil)) (tCons (tC (.int 6)) tNil))) (start ["_law_script", "_law_k", "_law_box_here", "_law_failings", "_law_rows", "_law_refused", "_law_row"] [.ref a]) H (.int (if (6 : Int) < ns.length then 6 else ns.length)) := fun H1 e Q' q' =>
    hlen H1 e _ fun H2 e2 => ⟨_, 6, rfl, q' H2 e2⟩
  have hmax := ev_max2 (ta := tC (.int 3)) (σ := start ["_law_script", "_law_k", "_law_box_here", "_law_failings", "_law_rows", "_law_refused", "_law_row"] [.ref a]) (H := H) ev_c hmin
  generalize hN : (if (if (6 : Int) < ns.length then (6 : Int) else ns.length) > 3 then (if (6 : Int) < ns.length then (6 : Int) else ns.length) else 3) = N at hmax
  have hN6 : 0 ≤ N ∧ N ≤ 6 := by rw [← hN]; split <;> split <;> omega
  refine q_forR1 (n := N) (ea_cons hmax ea_nil) ⟨hN6.1, by omega⟩ (fun i σ H' => (∃ y1 y2 y3 y4 y5 y6, σ = [some (.ref a), y1, y2, y3, y4, y5, y6]) ∧ SqL p.K H' a (ns.map V.int) ∧ Tabs p.T H') (fun H1 e1 => ⟨⟨_, _, _, _, _, _, rfl⟩, ex_l e1 hs, hT.ext e1⟩) (fun i σ H0 hi ⟨⟨y1, y2, y3, y4, y5, y6, es⟩, hs0, T0⟩ => ?_) fun σ H' ⟨⟨y1, y2, y3, y4, y5, y6, es⟩, _, _⟩ => ?_
  · subst es
    have hcell : EvR (tCall (sp_law_cell p) [] E0 (tCons (tVar 0) (tCons (tVar 1) tNil))) [some (.ref a), some (.int (i : Int)), y2, y3, y4, y5, y6] H0 (fun u _ => ∃ n, u = .int n) := evr_call (ea_cons (ev_var rfl) (ea_cons (ev_var rfl) ea_nil)) fun H1 e1 => ⟨a, ns, (i : Int), rfl, ex_l e1 hs0, by omega, by omega, rfl⟩
    have hbox : EvN (tCall (sp_law_box p) [] E0 (tCons (tCall (sp_law_cell p) [] E0 (tCons (tVar 0) (tCons (tVar 1) tNil))) tNil)) [some (.ref a), some (.int (i : Int)), y2, y3, y4, y5, y6] H0 (fun u H' => ∃ q, u = .ref q ∧ Box H' q 1000000) := fun H1 e1 Q' q' =>
      hcell H1 e1 _ fun u H2 e2 ⟨n, eu⟩ => ⟨_, ⟨n, by rw [eu]; rfl, rfl⟩, fun b H3 hb e3 r => q' b H3 (fresh_back e2 hb) (e2.trans e3) r⟩
    refine q_asgN hbox fun q H1 hq0 e1 ⟨q', eq', b1⟩ => ?_
    cases eq'
    have hfail : Dr (tOp (rIxL p.K) (tLst (tCons (tCall (sp_law_take p) [] E0 (tCons (tVar 2) (tCons (tC (.int 5)) tNil))) (tCons (tCall (sp_law_take p) [] E0 (tCons (tVar 2) (tCons (tC (.int 30)) tNil))) tNil))) (tCB rInt1 (tCons (tOp rEq (tCall (sp_law_take p) [] E0 (tCons (tVar 2) (tCons (tC (.int 6)) tNil))) (tC (.int 0))) tNil)))
        [some (.ref a), some (.int (i : Int)), some (.ref q), y3, y4, y5, y6] q 1000000 999997 (RI 0 29) :=
      dr_ixl (n1 := 999998) (a := 0) (b := 1) (dra_cons (dr_takeJ (p := p) (n1 := 999999) (M := 5) rfl (by decide) (by decide)) (dra_cons (dr_takeJ (p := p) (n1 := 999998) (M := 30) rfl (by decide) (by decide)) dra_nil))
        (fun H2 b2 Q' q' => (dr_takeJ (p := p) (n1 := 999997) (M := 6) (j := 2) (σ := [some (.ref a), some (.int (i : Int)), some (.ref q), y3, y4, y5, y6]) rfl (by decide) (by decide)) H2 b2 _ fun v H3 e3 b3 ⟨x, ex, _, _⟩ => by
          subst ex
          refine ⟨rfl, .inr ⟨_, rfl, q' _ H3 e3 b3 ⟨_, rfl, ?_, ?_⟩⟩⟩ <;> split <;> decide)
        (fun vs ⟨x, xs, e, _, y, ys, e2, _, e3⟩ => by rw [e, e2, e3]; show 2 ≤ 100000; decide) fun vs j ⟨x, xs, e, hx, y, ys, e2, hy, e3⟩ j0 j1 => by
          rw [e, e2, e3]
          have : j = 0 ∨ j = 1 := by omega
          rcases this with rfl | rfl
          · exact ⟨x, atI_nat (j := 0) rfl, by obtain ⟨z, a, b, c⟩ := hx; exact ⟨z, a, b, by omega⟩⟩
          · exact ⟨y, atI_nat (j := 1) rfl, by obtain ⟨z, a, b, c⟩ := hy; exact ⟨z, a, b, by omega⟩⟩
    refine q_dr hfail b1 fun v2 H2 e2 b2 ⟨k, ek, k0, k29⟩ => ?_
    subst ek
    have ex2 : Ex H0 H2 := ExB.back e1 e2 hq0
    refine ⟨.ref q, rfl, .ref q, rfl, q, 999000, rfl, b2.le (by omega), fun nv H3 zs e3 b3 hzs zl znd znm => ?_⟩
    have ex3 : Ex H0 H3 := ExB.back ex2 e3 hq0
    refine ⟨.int k, rfl, q, nv, k, zs, 998000, rfl, b3.le (by omega), hzs, zl, znd, znm, k0, k29, fun H4 rs qs u ra rb e4 b4 hu hA hB P => ?_⟩
    have ex4 : Ex H0 H4 := ExB.back ex3 e4 hq0
    refine ⟨u, [.ref ra, .ref rb], rfl, sq_of hu, rfl, .ref ra, [.ref rb], rfl, .ref rb, [], rfl, rfl, ?_⟩
    have T4 := T0.ext ex4
    have hs4 := ex_l ex4 hs0
    obtain ⟨rb', xs, erb, hrb, hxs⟩ := id hB
    cases erb
    refine ⟨.ref rb, rfl, 1, rfl, -1, rfl, rb, xs, rfl, sq_of hrb, fun l hl => ?_⟩
    have e5 : Ex H4 (upd H4 l (.lst (cutV xs (some (-1)) none))) := Ex.new hl
    have hA5 := lsAt_ex rrow_lst hA e5
    have hx5 := hxs.mono rrow_lst.l e5
    have hl5 : (upd H4 l (.lst (cutV xs (some (-1)) none)) : Hp) l = some (.lst (cutV xs (some (-1)) none)) := upd_same
    refine ⟨l, rfl, ⟨_, sq_of hl5⟩, ?_⟩
    refine for_list (xs := cutV xs (some (-1)) none) (D := { nx := _, rt := Q, bk := _, ct := _ }) (fun j σ H' => (∃ y6, σ = [some (.ref a), some (.int (i : Int)), some (.ref q), some (.int k), some (.ref ra), some (.ref rb), y6]) ∧ ExtN (upd H4 l (.lst (cutV xs (some (-1)) none))) H' ∧ Tabs p.T H')
      ⟨⟨_, rfl⟩, fun _ _ h _ => h, T4.ext e5⟩ (fun j σ H' _ ⟨_, e, _⟩ => sq_of (e _ _ hl5 fun _ z => nomatch z)) (fun j x σ H' hj ⟨⟨z6, es⟩, eN, T6⟩ => ?_) fun σ H' ⟨⟨z6, es⟩, eN, T6⟩ => ?_
    · subst es
      have hxm := cut_mem (List.mem_of_getElem? hj)
      obtain ⟨m, hm, em⟩ := List.mem_iff_getElem.mp hxm
      have hxi : xs[m]? = some x := by rw [← em]; exact List.getElem?_eq_getElem hm
      obtain ⟨r, hr, rr⟩ := hx5.get hxi
      refine s_mustX (p := p) (fun Q' q' => ⟨.ref ra, rfl, .int k, rfl, x, rfl, rs, qs, k, r, .ref ra, x, rfl, rowsN hA5 eN, rr.extN eN, P, List.mem_of_getElem? hr, k0, k29, T6, fun H7 N7 T7 => q' H7 N7 T7⟩) fun H7 N7 T7 => ⟨⟨_, rfl⟩, eN.trans N7, T7⟩
    · subst es
      exact ⟨⟨_, _, _, _, _, _, rfl⟩, sqL_N (ex_l e5 hs4) eN, T6⟩
  · exact hq H'
end Fs

set_option Elab.async false
set_option linter.all false
set_option maxRecDepth 100000
set_option maxHeartbeats 4000000
/-! READINGS -/
namespace Fs
open PySem PySem.Spec PyProof.Rows L2 Evl
open LamX NdefX
/-! ### lambdas: their readings, their promises -/
def t_lam_counts : TE := tOp rLtI (tVar 1) (tDGet2 (tVar 2) (tVar 0) (tC (.int 0)))
theorem rd_lam_counts {z : Str} {n : Int} {d : Addr} {H : Hp} {Q : VK} (hd : H d = some (.dK [])) (n0 : 0 ≤ n) (hq : ∀ H', Ex H H' → Q (.bl false) H') : t_lam_counts [some (.str z), some (.int n), some (.ref d)] H Q :=
  ⟨.int n, rfl, .ref d, rfl, d, rfl, .inl ⟨[], .inl hd⟩, .str z, rfl, _, DGet.k (k := Sum.inr z) hd, n, 0, rfl, rfl, by
    have : decide (n < 0) = false := decide_eq_false (by omega)
    show Q (.bl (decide (n < 0))) H
    rw [this]; exact hq H (Ex.refl H)⟩
def t_lam_later (p : Pm) : TE := tMeth p.CP "with_last" (sp_Pieces_with_last p) [] E0 (tVar 1) (tCons (tOp (rIxT p.K) (tVar 2) (tC (.int 0))) (tCons (tOp rAddI (tOp (rIxT p.K) (tVar 2) (tC (.int 2))) (tVar 0)) tNil))
def t_lam_earlier (p : Pm) : TE := tMeth p.CP "with_row" (sp_Pieces_with_row p) [] E0 (tVar 1) (tCons (tOp (rCatA p.K) (tTup (tCons (tOp (rIxT p.K) (tVar 2) (tC (.int 0))) (tCons (tOp rSubI (tOp (rIxT p.K) (tVar 2) (tC (.int 1))) (tVar 0)) tNil))) (tSl (rSlA p.K) (tVar 2) (tPart (tC (.int 2))) tNoPart)) tNil)
def spLater (p : Pm) : List V → Sp := fun ws vs H Q _ => ∃ fo y rs r t, ws = [fo, y] ∧ vs = [.int t] ∧ RPc p fo (rs ++ [r]) H ∧ RRow y r H ∧ Rws (rs ++ [later r t]) ∧ ∀ v H', Ex H H' → RPc p v (rs ++ [later r t]) H' → Q v H'
def spEarlier (p : Pm) : List V → Sp := fun ws vs H Q _ => ∃ fo y rs r t, ws = [fo, y] ∧ vs = [.int t] ∧ RPc p fo rs H ∧ RRow y r H ∧ Rws (rs ++ [earlier r t]) ∧ ∀ v H', Ex H H' → RPc p v (rs ++ [earlier r t]) H' → Q v H'
theorem withLast_last {rs : List Row} {r : Row} {l : Int} (h : Rws (rs ++ [r])) : withLast (rs ++ [r]) r.n l = rs ++ [{ r with l := l }] := by
  unfold withLast
  have nd := h.nd
  rw [List.map_append, List.nodup_append] at nd
  rw [List.map_append, List.map_singleton, if_pos rfl]
  congr 1
  have : rs.map (fun q => if q.n = r.n then { q with l := l } else q) = rs.map fun q => q := List.map_congr_left fun q hq => if_neg fun e => nd.2.2 _ (List.mem_map.mpr ⟨q, hq, rfl⟩) _ (by simp) e
  rw [this, List.map_id']
theorem rd_lam_later (p : Pm) {ws vs : List V} {H : Hp} {Q : VK} {E : XK} (h : spLater p ws vs H Q E) : t_lam_later p (startF ["turns", "found", "row"] vs (ws.map some)) H Q := by
  obtain ⟨fo, y, rs, r, t, ew, ev, hf, hy, hw, hq⟩ := h
  subst ew; subst ev
  obtain ⟨a, ey, ha⟩ := id hy
  subst ey
  obtain ⟨hwf, b, dx, d, xs, ef, g1, _, _⟩ := id hf
  subst ef
  have hv : EvR (t_lam_later p) (startF ["turns", "found", "row"] [.int t] ([V.ref b, V.ref a].map some)) H (fun u => RPc p u (rs ++ [later r t])) := evr_meth (ev_var rfl) g1 rfl (ea_cons (ev_ixT (i := 0) (ev_var rfl) ha rfl) (ea_cons (ev_op (ev_ixT (i := 2) (ev_var rfl) ha rfl) (ev_var rfl) rv_I0) ea_nil)) fun H1 e1 =>
    ⟨.ref b, rs ++ [r], r, r.l + t, rfl, (rpc_lst p).l _ _ _ _ e1 hf, by simp, by rw [withLast_last hwf]; exact hw, by rw [withLast_last hwf]; rfl⟩
  exact hv H (Ex.refl H) Q fun v H1 e1 r1 => hq v H1 e1 r1
theorem rd_lam_earlier (p : Pm) {ws vs : List V} {H : Hp} {Q : VK} {E : XK} (h : spEarlier p ws vs H Q E) : t_lam_earlier p (startF ["turns", "pieces", "row"] vs (ws.map some)) H Q := by
  obtain ⟨fo, y, rs, r, t, ew, ev, hf, hy, hw, hq⟩ := h
  subst ew; subst ev
  obtain ⟨a, ey, ha⟩ := id hy
  subst ey
  obtain ⟨hwf, b, dx, d, xs, ef, g1, _, _⟩ := id hf
  subst ef
  have hrow : EvR (tOp (rCatA p.K) (tTup (tCons (tOp (rIxT p.K) (tVar 2) (tC (.int 0))) (tCons (tOp rSubI (tOp (rIxT p.K) (tVar 2) (tC (.int 1))) (tVar 0)) tNil))) (tSl (rSlA p.K) (tVar 2) (tPart (tC (.int 2))) tNoPart)) (startF ["turns", "pieces", "row"] [.int t] ([V.ref b, V.ref a].map some)) H (TupV ([.str r.n, .int (r.f - t)] ++ [.int r.l, .int r.c, .int r.r])) :=
    evr_catT (evr_tupA (ea_cons (ev_ixT (i := 0) (ev_var rfl) ha rfl) (ea_cons (ev_op (ev_ixT (i := 1) (ev_var rfl) ha rfl) (ev_var rfl) rv_I0) ea_nil)) (by simp)) (evr_slT (xs := rowV r) (lo := some 2) (hi := none) (evr_var rfl (tupV_lasts _) hy) part_c (part_none (tz := ())) (by show ¬ (2 = 0 ∧ 5 = 5); decide) rfl) (by simp) (by simp) (by simp)
  have hv : EvR (t_lam_earlier p) (startF ["turns", "pieces", "row"] [.int t] ([V.ref b, V.ref a].map some)) H (fun u => RPc p u (rs ++ [earlier r t])) := evr_methR (P := fun us H' => ∃ w, us = [w] ∧ RRow w (earlier r t) H') (ev_var rfl) g1 rfl (ear_1 hrow (tupV_lasts _)) fun us H1 e1 ⟨w, eu, hw'⟩ =>
    ⟨.ref b, rs, w, earlier r t, by rw [eu], (rpc_lst p).l _ _ _ _ e1 hf, hw', hw, rfl⟩
  exact hv H (Ex.refl H) Q fun v H1 e1 r1 => hq v H1 e1 r1
theorem rpc_drop {p : Pm} {v : V} {rs : List Row} {H : Hp} {cs : List Addr} (h : RPc p v rs H) (hc : IsC H cs) : RPc p v rs (dropC H cs) := by
  obtain ⟨hw, a, dx, d, xs, ev, g1, g2, g3⟩ := h
  exact ⟨hw, a, dx, d, xs, ev, (dropC_out (hc.out g1 fun _ z => nomatch z)).trans g1, (dropC_out (hc.out g2 fun _ z => nomatch z)).trans g2, Paired.mapP g3 fun v r ⟨b, e, hb⟩ => ⟨b, e, (dropC_out (hc.out hb fun _ z => nomatch z)).trans hb⟩⟩
theorem rrow_drop {v : V} {r : Row} {H : Hp} {cs : List Addr} (h : RRow v r H) (hc : IsC H cs) : RRow v r (dropC H cs) := by
  obtain ⟨b, e, hb⟩ := h
  exact ⟨b, e, (dropC_out (hc.out hb fun _ z => nomatch z)).trans hb⟩
/-! ### later_end, earlier_start -/
def t_later_end (p : Pm) (m : Lm) (cl : List (Str × Addr)) : TS := (tSeq (tDrop (tCall (sp_need_failings p) [] E0 (tCons (tVar 1) tNil)))
  (tSeq (tAsg (tCall (sp_refused_with p) [] E0 (tCons (tVar 0) (tCons (tVar 1) (tCons (tVar 2) tNil)))) (gName 3))
  (tRet (tTrk m.L m.b cl m.fr [3, 2] (sp_least_turns p m) (tCons (tVar 1) (tCons (tLam p.T m.L m.b cl) (tCons (tOp rSubI (tC (.int 199)) (tOp (rIxT p.K) (tVar 2) (tC (.int 2)))) tNil)))))))
def t_earlier_start (p : Pm) (m : Lm) (cl : List (Str × Addr)) : TS := (tSeq (tDrop (tCall (sp_need_failings p) [] E0 (tCons (tVar 1) tNil)))
  (tSeq (tIfS (tNot (tB (tCall (sp_is_within p) [] E0 (tCons (tVar 3) (tCons (tC (.int 0)) (tCons (tOp rAddI (tC (.int 199)) (tC (.int 1))) tNil)))))) tNever tNext)
  (tSeq (tDrop (tCall (sp_refused_with p) [] E0 (tCons (tVar 0) (tCons (tVar 1) (tCons (tVar 2) tNil)))))
  (tRet (tTrk m.L m.b cl m.fr [0, 2] (sp_least_turns p m) (tCons (tVar 1) (tCons (tLam p.T m.L m.b cl) (tCons (tOp rSubI (tOp (rIxT p.K) (tVar 2) (tC (.int 1))) (tVar 3)) tNil))))))))
/-- what stands behind a call with a lambda of the running frame -/
theorem trk_end {H0 H1 H2 H' : Hp} {cs : List Addr} {T : List (Addr × Str)} {g : Int → List Row} {k most : Int} {v : V} {Q : VK} (hn : ∀ a ∈ cs, H1 a = none) (e12 : Ex H1 H2) (hc : ∀ a ∈ cs, ∃ o, H2 a = some (Cel a o)) (N01 : ExtN H0 H1) (T1 : Tabs T H1) (e : Ex H2 H') (hl : Least g k most v H')
    (hq : ∀ H', ExtN H0 H' → Tabs T H' → Least g k most v H' → Q v H') : (∀ a ∈ cs, H' a = H2 a) ∧ Q v (dropC H' cs) := by
  have nc : ∀ {b : Addr} {o : HO}, H1 b = some o → b ∉ cs := fun h hb => by rw [hn _ hb] at h; cases h
  have ex : Ex H1 (dropC H' cs) := fun b o h => (dropC_out (nc h)).trans (e _ _ (e12 _ _ h))
  refine ⟨fun a ha => ?_, hq _ (N01.trans (ExtN.of ex)) (T1.ext ex) ?_⟩
  · obtain ⟨o, h⟩ := hc a ha
    rw [h]; exact e _ _ h
  · rcases hl with h | ⟨h1, h2, h, a, x, y, hu, ha, h3⟩
    · exact .inl h
    · refine .inr ⟨h1, h2, h, a, x, y, hu, (dropC_out fun hm => ?_).trans ha, h3⟩
      obtain ⟨o, hc'⟩ := hc a hm
      rw [e _ _ hc'] at ha
      cases ha
theorem rd_later_end (p : Pm) (m : Lm) (hm : m.sp = spLater p) (hfr : m.fr = (["found", "row"] : List Str)) (cl : List (Str × Addr)) : ∀ vs H Q E, sp_later_end p vs H Q E → t_later_end p m cl { nx := fun _ H' => Q .non H', rt := Q } (start ["pieces", "failings", "row", "found"] vs) H := fun vs H Q E ⟨rs, k, r, hr, hT, hq⟩ => by
  obtain ⟨v, y, ev, hv, hy, hw, hk, h1, h2⟩ := id hr
  subst ev
  refine q_drop (ev_needF (ev_var rfl) hk) fun H1 e1 => ?_
  refine q_asgR (evr_refused (ea_cons (ev_var rfl) (ea_cons (ev_var rfl) (ea_cons (ev_var rfl) ea_nil))) (hr.mono e1)) fun fo H2 e2 hfo => ?_
  have e12 := e1.trans e2
  have hy2 := rrow_lst.l _ _ _ _ e12 hy
  obtain ⟨b, eb, hb⟩ := id hy2
  subst eb
  refine ⟨.int k, rfl, (hT.ext e12), fun f c H3 N3 hn3 T3 hf0 hf hc => ?_⟩
  have hb3 := N3 _ _ hb fun _ z => nomatch z
  refine (ev_op (r := rSubI) (ta := tC (.int 199)) (tb := tOp (rIxT p.K) (tVar 2) (tC (.int 2))) (x := .int 199) (y := .int r.l) (σ := [some v, some (.int k), some (.ref b), some fo]) (H := H3) ev_c (ev_ixT (i := 2) (ev_var rfl) hb3 rfl) rv_I0) H3 (Ex.refl H3) _ fun H4 e4 => ?_
  refine ⟨[fo, .ref b], rfl, fun H5 hn5 e5 hc5 ho5 hC => ?_⟩
  have or := hw.ok r (by simp)
  have hC5 := hC f c (e4 _ _ hf) (e4 _ _ hc)
  have hIs : IsC H5 (cellsOf (m.L.F cl c)) := hC5.isC
  have hfo5 : RPc p fo (rs ++ [r]) H5 := (rpc_lst p).l _ _ _ _ (e4.trans e5) (hfo.extN N3)
  have hy5 : RRow (.ref b) r H5 := rrow_lst.l _ _ _ _ (e4.trans e5) ⟨b, rfl, hb3⟩
  have g0 : rs ++ [later r 0] = rs ++ [r] := by
    have : later r 0 = r := by unfold later; rw [Int.add_zero]
    rw [this]
  refine ⟨k, f, 199 - r.l, m.L.F cl c, [fo, .ref b], fun t => rs ++ [later r t], rfl, hk, by have := or.l1; have := or.f0; have := or.fl; omega, by show Fm.kept (rs ++ [later r 0]) k = false; rw [g0]; exact h2, ⟨cl, c, rfl⟩, hC5, fun H6 e6 t t0 t1 Q' q' => ?_, fun u H6 e6 hL => ?_⟩
  · rw [hm]
    refine ⟨fo, .ref b, rs, r, t, rfl, rfl, (rpc_lst p).l _ _ _ _ e6 (rpc_drop hfo5 hIs), rrow_lst.l _ _ _ _ e6 (rrow_drop hy5 hIs), ?_, fun v' H7 e7 h7 => q' v' H7 e7 h7⟩
    refine ⟨fun q hq' => ?_, ?_, by have := hw.len; rw [List.length_append] at this ⊢; exact this, fun q hq' => ?_⟩
    · rcases List.mem_append.mp hq' with a | a
      · exact hw.ok q (List.mem_append_left _ a)
      · rw [List.mem_singleton.mp a]; exact ok_later or t0 t1
    · have nd := hw.nd
      rw [List.map_append] at nd ⊢
      exact nd
    · rcases List.mem_append.mp hq' with a | a
      · exact hw.nm q (List.mem_append_left _ a)
      · rw [List.mem_singleton.mp a]; exact hw.nm r (by simp)
  · exact trk_end (H0 := H) hn5 e5 hc5 (((ExtN.of e12).trans N3).trans (ExtN.of e4)) (T3.ext e4) e6 hL fun H7 N7 T7 hL7 => hq u H7 N7 T7 hL7
theorem rd_earlier_start (p : Pm) (m : Lm) (hm : m.sp = spEarlier p) (hfr : m.fr = (["pieces", "row"] : List Str)) (cl : List (Str × Addr)) : ∀ vs H Q E, sp_earlier_start p vs H Q E → t_earlier_start p m cl { nx := fun _ H' => Q .non H', rt := Q } (start ["pieces", "failings", "row", "now"] vs) H := fun vs H Q E ⟨rs, k, r, v, y, ev, hr, hT, hq⟩ => by
  subst ev
  obtain ⟨v', y', ev', hv, hy, hw, hk, h1, h2⟩ := id hr
  have e1 : v = v' := (List.cons.inj ev').1
  have e2 : y = y' := (List.cons.inj (List.cons.inj (List.cons.inj ev').2).2).1
  subst e1; subst e2
  refine q_drop (ev_needF (ev_var rfl) hk) fun H1 e1 => ?_
  refine q_must (et_B (ev_within (n := 0) (ev_var rfl) ev_c (ev_op ev_c ev_c rv_I0) ⟨by decide, by decide⟩)) fun H1' e1' => ?_
  have e11 := e1.trans e1'
  refine q_dropR (evr_refused (ea_cons (ev_var rfl) (ea_cons (ev_var rfl) (ea_cons (ev_var rfl) ea_nil))) (hr.mono e11)) fun fo H2 e2 _ => ?_
  have e12 := e11.trans e2
  have hv2 := (rpc_lst p).l _ _ _ _ e12 hv
  have hy2 := rrow_lst.l _ _ _ _ e12 hy
  obtain ⟨b, eb, hb⟩ := id hy2
  subst eb
  refine ⟨.int k, rfl, (hT.ext e12), fun f c H3 N3 hn3 T3 hf0 hf hc => ?_⟩
  have hb3 := N3 _ _ hb fun _ z => nomatch z
  refine (ev_op (r := rSubI) (ta := tOp (rIxT p.K) (tVar 2) (tC (.int 1))) (tb := tVar 3) (x := .int r.f) (y := .int 0) (σ := [some v, some (.int k), some (.ref b), some (.int 0)]) (H := H3) (ev_ixT (i := 1) (ev_var rfl) hb3 rfl) (ev_var rfl) rv_I0) H3 (Ex.refl H3) _ fun H4 e4 => ?_
  refine ⟨[v, .ref b], rfl, fun H5 hn5 e5 hc5 ho5 hC => ?_⟩
  have or := hw.ok r (by simp)
  have hC5 := hC f c (e4 _ _ hf) (e4 _ _ hc)
  have hIs : IsC H5 (cellsOf (m.L.F cl c)) := hC5.isC
  have hv5 : RPc p v rs H5 := (rpc_lst p).l _ _ _ _ (e4.trans e5) (hv2.extN N3)
  have hy5 : RRow (.ref b) r H5 := rrow_lst.l _ _ _ _ (e4.trans e5) ⟨b, rfl, hb3⟩
  have g0 : rs ++ [earlier r 0] = rs ++ [r] := by
    have : earlier r 0 = r := by unfold earlier; rw [Int.sub_zero]
    rw [this]
  refine ⟨k, f, r.f - 0, m.L.F cl c, [v, .ref b], fun t => rs ++ [earlier r t], rfl, hk, by have := or.l1; have := or.f0; have := or.fl; omega, by show Fm.kept (rs ++ [earlier r 0]) k = false; rw [g0]; exact h2, ⟨cl, c, rfl⟩, hC5, fun H6 e6 t t0 t1 Q' q' => ?_, fun u H6 e6 hL => ?_⟩
  · rw [hm]
    refine ⟨v, .ref b, rs, r, t, rfl, rfl, (rpc_lst p).l _ _ _ _ e6 (rpc_drop hv5 hIs), rrow_lst.l _ _ _ _ e6 (rrow_drop hy5 hIs), ?_, fun v' H7 e7 h7 => q' v' H7 e7 h7⟩
    refine ⟨fun q hq' => ?_, ?_, by have := hw.len; rw [List.length_append] at this ⊢; exact this, fun q hq' => ?_⟩
    · rcases List.mem_append.mp hq' with a | a
      · exact hw.ok q (List.mem_append_left _ a)
      · rw [List.mem_singleton.mp a]; exact ok_earlier or t0 (by omega)
    · have nd := hw.nd
      rw [List.map_append] at nd ⊢
      exact nd
    · rcases List.mem_append.mp hq' with a | a
      · exact hw.nm q (List.mem_append_left _ a)
      · rw [List.mem_singleton.mp a]; exact hw.nm r (by simp)
  · exact trk_end (H0 := H) hn5 e5 hc5 (((ExtN.of e12).trans N3).trans (ExtN.of e4)) (T3.ext e4) e6 hL fun H7 N7 T7 hL7 => hq u H7 N7 T7 hL7
end Fs

set_option Elab.async false
set_option linter.all false
set_option maxRecDepth 100000
set_option maxHeartbeats 4000000
/-! the walks (printed by gen_walk.py) -/
namespace Fs
open PySem PySem.Spec PyProof.Rows L2 Evl
/-- the built-in names that the module leaves alone -/
structure Blt (mg : Str → Option Value) : Prop where
  all : mg "all" = none
  any : mg "any" = none
  bool : mg "bool" = none
  dict : mg "dict" = none
  enumerate : mg "enumerate" = none
  int : mg "int" = none
  isinstance : mg "isinstance" = none
  len : mg "len" = none
  list : mg "list" = none
  max : mg "max" = none
  min : mg "min" = none
  range : mg "range" = none
  set : mg "set" = none
  sorted : mg "sorted" = none
  str : mg "str" = none
  sum : mg "sum" = none
  tuple : mg "tuple" = none
theorem bt_all : bootBuiltins "all" = some (.builtin "all") := by decide +kernel
theorem bt_bool : bootBuiltins "bool" = some (.type "bool") := by decide +kernel
theorem bt_dict : bootBuiltins "dict" = some (.type "dict") := by decide +kernel
theorem bt_int : bootBuiltins "int" = some (.type "int") := by decide +kernel
theorem bt_isinstance : bootBuiltins "isinstance" = some (.builtin "isinstance") := by decide +kernel
theorem bt_len : bootBuiltins "len" = some (.builtin "len") := by decide +kernel
theorem bt_list : bootBuiltins "list" = some (.type "list") := by decide +kernel
theorem bt_max : bootBuiltins "max" = some (.builtin "max") := by decide +kernel
theorem bt_min : bootBuiltins "min" = some (.builtin "min") := by decide +kernel
theorem bt_set : bootBuiltins "set" = some (.type "set") := by decide +kernel
theorem bt_sorted : bootBuiltins "sorted" = some (.builtin "sorted") := by decide +kernel
theorem bt_str : bootBuiltins "str" = some (.type "str") := by decide +kernel
theorem bt_sum : bootBuiltins "sum" = some (.builtin "sum") := by decide +kernel
theorem bt_tuple : bootBuiltins "tuple" = some (.type "tuple") := by decide +kernel
/-- the module's constants -/
structure Cns (mg : Str → Option Value) (p : Pm) : Prop where
  LETTERS : ∃ u, mg "LETTERS" = some u ∧ RelV (.str "abcdefghijklmnopqrstuvwxyz") u
  FIGURES : ∃ u, mg "FIGURES" = some u ∧ RelV (.str "0123456789") u
  LONGEST_NAME : ∃ u, mg "LONGEST_NAME" = some u ∧ RelV (.int 8) u
  MOST : ∃ u, mg "MOST" = some u ∧ RelV (.int 200) u
  MOST_TURN_stretches : ∃ u, mg "MOST_TURN_stretches" = some u ∧ RelV (.int 199) u
  MOST_FAILINGS : ∃ u, mg "MOST_FAILINGS" = some u ∧ RelV (.int 300) u
  MOST_TURN_hindsight : ∃ u, mg "MOST_TURN_hindsight" = some u ∧ RelV (.int 199) u
  MOST_PIECES : ∃ u, mg "MOST_PIECES" = some u ∧ RelV (.int 30) u
  MOST_TURN_pieces : ∃ u, mg "MOST_TURN_pieces" = some u ∧ RelV (.int 199) u
  MOST_LENGTH : ∃ u, mg "MOST_LENGTH" = some u ∧ RelV (.int 12) u
  Paper : ∃ u, mg "Paper" = some u ∧ RelV (.ref p.CA) u
/-- Paper.__init__ read off its class -/
structure PapX (p : Pm) (mg : Str → Option Value) (base : Heap) (k : Nat) : Prop where
  ex : ∃ (f : Addr) (fd : FuncData) (ps : List Str) (mc : Value), ClX.CRead p.K p.CA mc ∧ ClX.CVal p.K p.CA mc "__init__" (.ref f) (.ref f) ∧ FnOk p.P p.w p.K mg base C8.CX0 k f fd ps (sp_Paper_init p) ∧ PySem.W.keepIn p.K (.ref f) = true ∧ Binds p.K fd ps []
theorem pe_cx {p : Pm} {X : Cx} {k j : Nat} {pos apos : Pos} {e o : Expr} {es : List Expr} {t : TA} {pl : Sem Bool} (hP : X.prog = p.P) (hw : X.w = p.w) (hK : X.K = p.K) (c : PapX p X.mg X.base k) (he : PE X o (tC (.ref p.CA))) (hr : Room j X.A) (hk : k ≤ j) (ha : PA X (e :: es) t)
    (hst : starEach (e :: es) X.env = (false, eval e X.env) :: starEach es X.env := by rfl) (hpl : (backTo pos (starEach es X.env)).any (·.1) = false := by rfl)
    (ht : eval (.Call (.Attribute o "__init__" apos) (e :: es) [] pos) X.env = (do
      let ov ← eval o X.env
      standAt apos.atName
      let (f, first) ← holding [ov] (getMethod ov "__init__" pl)
      callWith pos f first (backTo pos (starEach (e :: es) X.env)) (backToKw pos (keywordEach [] X.env))) := by rfl) :
    PE X (.Call (.Attribute o "__init__" apos) (e :: es) [] pos) (tCFun p.CA (sp_Paper_init p) E0 (tC (.ref p.CA)) t) := by
  obtain ⟨f, fd, ps, mc, r, cv, F, kp, b⟩ := c.ex
  rw [← hP, ← hw, ← hK] at F
  rw [← hK] at r cv kp b
  exact pe_cfun (pl := pl) he r cv F kp (hr.mono hk) b C8.pass0 ha hst hpl ht

theorem sc_is_whole : FnScope ["thing"] ["thing"] (defScope s_is_whole) := ⟨rfl, rfl, rfl, by decide +kernel, rfl, by decide +kernel, by decide +kernel⟩
theorem sc_is_within : FnScope ["thing", "low", "high"] ["thing", "low", "high"] (defScope s_is_within) := ⟨rfl, rfl, rfl, by decide +kernel, rfl, by decide +kernel, by decide +kernel⟩
theorem sc_is_name : FnScope ["thing", "sign"] ["thing"] (defScope s_is_name) := ⟨rfl, rfl, rfl, by decide +kernel, rfl, by decide +kernel, by decide +kernel⟩
theorem sc_is_stretch : FnScope ["thing"] ["thing"] (defScope s_is_stretch) := ⟨rfl, rfl, rfl, by decide +kernel, rfl, by decide +kernel, by decide +kernel⟩
theorem sc_need_stretch : FnScope ["thing"] ["thing"] (defScope s_need_stretch) := ⟨rfl, rfl, rfl, by decide +kernel, rfl, by decide +kernel, by decide +kernel⟩
theorem sc_need_failings : FnScope ["thing"] ["thing"] (defScope s_need_failings) := ⟨rfl, rfl, rfl, by decide +kernel, rfl, by decide +kernel, by decide +kernel⟩
theorem sc_room : FnScope ["stretch"] ["stretch"] (defScope s_room) := ⟨rfl, rfl, rfl, by decide +kernel, rfl, by decide +kernel, by decide +kernel⟩
theorem sc_window_fault : FnScope ["row"] ["row"] (defScope s_window_fault) := ⟨rfl, rfl, rfl, by decide +kernel, rfl, by decide +kernel, by decide +kernel⟩
theorem sc_row_fault : FnScope ["known", "row"] ["known", "row"] (defScope s_row_fault) := ⟨rfl, rfl, rfl, by decide +kernel, rfl, by decide +kernel, by decide +kernel⟩
theorem sc_five_of : FnScope ["row"] ["row"] (defScope s_five_of) := ⟨rfl, rfl, rfl, by decide +kernel, rfl, by decide +kernel, by decide +kernel⟩
theorem sc_five_rows : FnScope ["rows", "found", "at", "row", "why"] ["rows"] (defScope s_five_rows) := ⟨rfl, rfl, rfl, by decide +kernel, rfl, by decide +kernel, by decide +kernel⟩
theorem sc_Pieces_init : FnScope ["self", "rows"] ["self", "rows"] (defScope s_Pieces_init) := ⟨rfl, rfl, rfl, by decide +kernel, rfl, by decide +kernel, by decide +kernel⟩
theorem sc_Pieces_told : FnScope ["self"] ["self"] (defScope s_Pieces_told) := ⟨rfl, rfl, rfl, by decide +kernel, rfl, by decide +kernel, by decide +kernel⟩
theorem sc_Pieces_names : FnScope ["self"] ["self"] (defScope s_Pieces_names) := ⟨rfl, rfl, rfl, by decide +kernel, rfl, by decide +kernel, by decide +kernel⟩
theorem sc_Pieces_has : FnScope ["self", "thing"] ["self", "thing"] (defScope s_Pieces_has) := ⟨rfl, rfl, rfl, by decide +kernel, rfl, by decide +kernel, by decide +kernel⟩
theorem sc_Pieces_row : FnScope ["self", "name"] ["self", "name"] (defScope s_Pieces_row) := ⟨rfl, rfl, rfl, by decide +kernel, rfl, by decide +kernel, by decide +kernel⟩
theorem sc_Pieces_with_row : FnScope ["self", "row"] ["self", "row"] (defScope s_Pieces_with_row) := ⟨rfl, rfl, rfl, by decide +kernel, rfl, by decide +kernel, by decide +kernel⟩
theorem sc_Pieces_without : FnScope ["self", "name", "row", "other"] ["self", "name"] (defScope s_Pieces_without) := ⟨rfl, rfl, rfl, by decide +kernel, rfl, by decide +kernel, by decide +kernel⟩
theorem sc_Pieces_put_at : FnScope ["self", "name", "row", "other"] ["self", "name", "row"] (defScope s_Pieces_put_at) := ⟨rfl, rfl, rfl, by decide +kernel, rfl, by decide +kernel, by decide +kernel⟩
theorem sc_Pieces_with_last : FnScope ["self", "name", "last", "row"] ["self", "name", "last"] (defScope s_Pieces_with_last) := ⟨rfl, rfl, rfl, by decide +kernel, rfl, by decide +kernel, by decide +kernel⟩
theorem sc_rows_within : FnScope ["pieces", "stretch", "row"] ["pieces", "stretch"] (defScope s_rows_within) := ⟨rfl, rfl, rfl, by decide +kernel, rfl, by decide +kernel, by decide +kernel⟩
theorem sc_lefts : FnScope ["pieces", "stretch", "row"] ["pieces", "stretch"] (defScope s_lefts) := ⟨rfl, rfl, rfl, by decide +kernel, rfl, by decide +kernel, by decide +kernel⟩
theorem sc_greatest_length : FnScope ["pieces", "stretch", "row"] ["pieces", "stretch"] (defScope s_greatest_length) := ⟨rfl, rfl, rfl, by decide +kernel, rfl, by decide +kernel, by decide +kernel⟩
theorem sc_longest : FnScope ["pieces", "stretch", "most", "row"] ["pieces", "stretch"] (defScope s_longest) := ⟨rfl, rfl, rfl, by decide +kernel, rfl, by decide +kernel, by decide +kernel⟩
theorem sc_need : FnScope ["pieces", "stretch", "failings"] ["pieces", "stretch", "failings"] (defScope s_need) := ⟨rfl, rfl, rfl, by decide +kernel, rfl, by decide +kernel, by decide +kernel⟩
theorem sc_stretches : FnScope ["pieces", "starts", "row", "ends", "found", "start", "end"] ["pieces"] (defScope s_stretches) := ⟨rfl, rfl, rfl, by decide +kernel, rfl, by decide +kernel, by decide +kernel⟩
theorem sc_table : FnScope ["pieces", "failings", "found", "start", "end"] ["pieces", "failings"] (defScope s_table) := ⟨rfl, rfl, rfl, by decide +kernel, rfl, by decide +kernel, by decide +kernel⟩
theorem sc_too_short : FnScope ["pieces", "failings", "start", "end", "wanted", "turns"] ["pieces", "failings"] (defScope s_too_short) := ⟨rfl, rfl, rfl, by decide +kernel, rfl, by decide +kernel, by decide +kernel⟩
theorem sc_is_kept : FnScope ["pieces", "failings"] ["pieces", "failings"] (defScope s_is_kept) := ⟨rfl, rfl, rfl, by decide +kernel, rfl, by decide +kernel, by decide +kernel⟩
theorem sc_Paper_init : FnScope ["self", "pieces", "failings"] ["self", "pieces", "failings"] (defScope s_Paper_init) := ⟨rfl, rfl, rfl, by decide +kernel, rfl, by decide +kernel, by decide +kernel⟩
theorem sc_Paper_failings : FnScope ["self"] ["self"] (defScope s_Paper_failings) := ⟨rfl, rfl, rfl, by decide +kernel, rfl, by decide +kernel, by decide +kernel⟩
theorem sc_Kept_word : FnScope ["self"] ["self"] (defScope s_Kept_word) := ⟨rfl, rfl, rfl, by decide +kernel, rfl, by decide +kernel, by decide +kernel⟩
theorem sc_Kept_holds : FnScope ["self"] ["self"] (defScope s_Kept_holds) := ⟨rfl, rfl, rfl, by decide +kernel, rfl, by decide +kernel, by decide +kernel⟩
theorem sc_quotient : FnScope ["pieces", "stretch", "length"] ["pieces", "stretch", "length"] (defScope s_quotient) := ⟨rfl, rfl, rfl, by decide +kernel, rfl, by decide +kernel, by decide +kernel⟩
theorem sc_length_of : FnScope ["pieces", "name"] ["pieces", "name"] (defScope s_length_of) := ⟨rfl, rfl, rfl, by decide +kernel, rfl, by decide +kernel, by decide +kernel⟩
theorem sc_borne : FnScope ["pieces", "one"] ["pieces"] (defScope s_borne) := ⟨rfl, rfl, rfl, by decide +kernel, rfl, by decide +kernel, by decide +kernel⟩
theorem sc_refused_with : FnScope ["pieces", "failings", "row", "found"] ["pieces", "failings", "row"] (defScope s_refused_with) := ⟨rfl, rfl, rfl, by decide +kernel, rfl, by decide +kernel, by decide +kernel⟩
theorem sc_is_counts : FnScope ["pieces", "thing", "name", "many"] ["pieces", "thing"] (defScope s_is_counts) := ⟨rfl, rfl, rfl, by decide +kernel, rfl, by decide +kernel, by decide +kernel⟩
theorem sc_need_counts : FnScope ["pieces", "counts"] ["pieces", "counts"] (defScope s_need_counts) := ⟨rfl, rfl, rfl, by decide +kernel, rfl, by decide +kernel, by decide +kernel⟩
theorem sc_Run_end_try : FnScope ["self", "name", "length", "turn", "fails", "number"] ["self", "name", "length", "turn", "fails"] (defScope s_Run_end_try) := ⟨rfl, rfl, rfl, by decide +kernel, rfl, by decide +kernel, by decide +kernel⟩
theorem sc_Run_end_empty : FnScope ["self", "turn", "fails", "name", "first", "last", "length", "left"] ["self", "turn", "fails"] (defScope s_Run_end_empty) := ⟨rfl, rfl, rfl, by decide +kernel, rfl, by decide +kernel, by decide +kernel⟩
theorem sc_Run_rests : FnScope ["self", "turn"] ["self", "turn"] (defScope s_Run_rests) := ⟨rfl, rfl, rfl, by decide +kernel, rfl, by decide +kernel, by decide +kernel⟩
theorem sc_Run_work_on : FnScope ["self", "turn", "fails", "best", "rows", "row", "name"] ["self", "turn", "fails"] (defScope s_Run_work_on) := ⟨rfl, rfl, rfl, by decide +kernel, rfl, by decide +kernel, by decide +kernel⟩
theorem sc_Run_init : FnScope ["self", "pieces", "fails", "name", "first", "last", "length", "left", "turn"] ["self", "pieces", "fails"] (defScope s_Run_init) := ⟨rfl, rfl, rfl, by decide +kernel, rfl, by decide +kernel, by decide +kernel⟩
theorem sc_Run_rows : FnScope ["self"] ["self"] (defScope s_Run_rows) := ⟨rfl, rfl, rfl, by decide +kernel, rfl, by decide +kernel, by decide +kernel⟩
theorem sc_run : FnScope ["pieces", "counts"] ["pieces", "counts"] (defScope s_run) := ⟨rfl, rfl, rfl, by decide +kernel, rfl, by decide +kernel, by decide +kernel⟩
theorem sc_Kept_order : FnScope ["self", "counts", "found"] ["self", "counts"] (defScope s_Kept_order) := ⟨rfl, rfl, rfl, by decide +kernel, rfl, by decide +kernel, by decide +kernel⟩
theorem sc_Crowd_init : FnScope ["self", "pieces", "failings", "stretch"] ["self", "pieces", "failings", "stretch"] (defScope s_Crowd_init) := ⟨rfl, rfl, rfl, by decide +kernel, rfl, by decide +kernel, by decide +kernel⟩
theorem sc_paper_of : FnScope ["pieces", "failings", "found"] ["pieces", "failings"] (defScope s_paper_of) := ⟨rfl, rfl, rfl, by decide +kernel, rfl, by decide +kernel, by decide +kernel⟩
theorem sc_least_turns : FnScope ["failings", "moved", "most", "low", "high", "middle"] ["failings", "moved", "most"] (defScope s_least_turns) := ⟨rfl, rfl, rfl, by decide +kernel, rfl, by decide +kernel, by decide +kernel⟩
theorem sc_fewer : FnScope ["pieces", "failings", "row"] ["pieces", "failings", "row"] (defScope s_fewer) := ⟨rfl, rfl, rfl, by decide +kernel, rfl, by decide +kernel, by decide +kernel⟩
theorem sc_instead_of : FnScope ["pieces", "failings", "row", "found", "told", "name", "others"] ["pieces", "failings", "row"] (defScope s_instead_of) := ⟨rfl, rfl, rfl, by decide +kernel, rfl, by decide +kernel, by decide +kernel⟩
theorem sc_law_cell : FnScope ["_law_script", "_law_k"] ["_law_script", "_law_k"] (defScope s_law_cell) := ⟨rfl, rfl, rfl, by decide +kernel, rfl, by decide +kernel, by decide +kernel⟩
theorem sc_law_box : FnScope ["_law_cell_here"] ["_law_cell_here"] (defScope s_law_box) := ⟨rfl, rfl, rfl, by decide +kernel, rfl, by decide +kernel, by decide +kernel⟩
theorem sc_law_take : FnScope ["_law_box_here", "_law_many", "_law_digit", "_law_number"] ["_law_box_here", "_law_many"] (defScope s_law_take) := ⟨rfl, rfl, rfl, by decide +kernel, rfl, by decide +kernel, by decide +kernel⟩
theorem sc_law_names : FnScope ["_law_box_here", "_law_many", "_law_letters", "_law_words", "_law_at", "_law_k", "_law_base", "_law_first", "_law_names_here", "_law_sign"] ["_law_box_here", "_law_many"] (defScope s_law_names) := ⟨rfl, rfl, rfl, by decide +kernel, rfl, by decide +kernel, by decide +kernel⟩
theorem sc_law_need : FnScope ["_law_rows", "_law_start", "_law_end", "_law_failings", "_law_inside", "_law_row"] ["_law_rows", "_law_start", "_law_end", "_law_failings"] (defScope s_law_need) := ⟨rfl, rfl, rfl, by decide +kernel, rfl, by decide +kernel, by decide +kernel⟩
theorem sc_law_short : FnScope ["_law_rows", "_law_failings", "_law_found", "_law_start", "_law_row", "_law_end"] ["_law_rows", "_law_failings"] (defScope s_law_short) := ⟨rfl, rfl, rfl, by decide +kernel, rfl, by decide +kernel, by decide +kernel⟩
theorem sc_law_drawn_row : FnScope ["_law_box_here", "_law_name", "_law_turns", "_law_long", "_law_first", "_law_last", "_law_length", "_law_left"] ["_law_box_here", "_law_name", "_law_turns", "_law_long"] (defScope s_law_drawn_row) := ⟨rfl, rfl, rfl, by decide +kernel, rfl, by decide +kernel, by decide +kernel⟩
theorem sc_law_promised : FnScope ["_law_box_here", "_law_names_here", "_law_failings", "_law_turns", "_law_long", "_law_rows", "_law_refused", "_law_name", "_law_row"] ["_law_box_here", "_law_names_here", "_law_failings"] (defScope s_law_promised) := ⟨rfl, rfl, rfl, by decide +kernel, rfl, by decide +kernel, by decide +kernel⟩
theorem sc_law_order_right : FnScope ["_law_rows", "_law_order", "_law_turns", "_law_one", "_law_name", "_law_first", "_law_last", "_law_length", "_law_left", "_law_mine", "_law_turn", "_law_other", "_law_row"] ["_law_rows", "_law_order"] (defScope s_law_order_right) := ⟨rfl, rfl, rfl, by decide +kernel, rfl, by decide +kernel, by decide +kernel⟩
theorem sc_law_numbers : FnScope ["_law_rows", "_law_failings", "_law_row", "_law_place", "_law_step", "_law_most", "_law_found", "_law_turns", "_law_other"] ["_law_rows", "_law_failings", "_law_row", "_law_place", "_law_step", "_law_most"] (defScope s_law_numbers) := ⟨rfl, rfl, rfl, by decide +kernel, rfl, by decide +kernel, by decide +kernel⟩
theorem sc_law_turns_right : FnScope ["_law_told", "_law_found", "_law_most"] ["_law_told", "_law_found", "_law_most"] (defScope s_law_turns_right) := ⟨rfl, rfl, rfl, by decide +kernel, rfl, by decide +kernel, by decide +kernel⟩
theorem sc_law_borne : FnScope ["_law_rows", "_law_found"] ["_law_rows"] (defScope s_law_borne) := ⟨rfl, rfl, rfl, by decide +kernel, rfl, by decide +kernel, by decide +kernel⟩
theorem sc_law_instead_right : FnScope ["_law_pieces", "_law_rows", "_law_failings", "_law_row", "_law_due", "_law_one", "_law_left", "_law_other", "_law_told", "_law_name", "_law_paper"] ["_law_pieces", "_law_rows", "_law_failings", "_law_row"] (defScope s_law_instead_right) := ⟨rfl, rfl, rfl, by decide +kernel, rfl, by decide +kernel, by decide +kernel⟩
theorem sc_law_right : FnScope ["_law_rows", "_law_failings", "_law_row", "_law_pieces", "_law_later", "_law_earlier", "_law_found"] ["_law_rows", "_law_failings", "_law_row"] (defScope s_law_right) := ⟨rfl, rfl, rfl, by decide +kernel, rfl, by decide +kernel, by decide +kernel⟩
theorem sc_law : FnScope ["_law_script", "_law_k", "_law_box_here", "_law_failings", "_law_rows", "_law_refused", "_law_row"] ["_law_script"] (defScope s_law) := ⟨rfl, rfl, rfl, by decide +kernel, rfl, by decide +kernel, by decide +kernel⟩
theorem wk_is_whole {p : Pm} {mg : Str → Option Value} {base : Heap} {A : Around} {outer : List Env} {s : Shared} {H : Hp} {E : XK} {f : Addr} {cdv : Value} (B : Blt mg) (hr : Room 0 (A.deeper (envOfC "is_whole" (defScope s_is_whole) s.heap.objs.size f cdv))) :
    PSs (cxOf C8.CX0 p.P p.w p.K mg base ["thing"] "is_whole" (defScope s_is_whole) f cdv A outer s H E).nox (defBody s_is_whole) (t_is_whole p) :=
  (pss_one (ps_ret (pe_and (pe_callB call_isi rfl B.isinstance bt_isinstance (pa_cons (pv 0) (pa_cons (pe_bltn rfl B.int bt_int rfl) pa_nil))) (pe_one (pe_not (pe_callB call_isi rfl B.isinstance bt_isinstance (pa_cons (pv 0) (pa_cons (pe_bltn rfl B.bool bt_bool rfl) pa_nil))))))))
theorem wk_is_within {p : Pm} {mg : Str → Option Value} {base : Heap} {A : Around} {outer : List Env} {s : Shared} {H : Hp} {E : XK} {f : Addr} {cdv : Value} (c_is_whole : C8.Cal p.P p.w p.K mg base 1 "is_whole" (sp_is_whole p) []) (hr : Room 1 (A.deeper (envOfC "is_within" (defScope s_is_within) s.heap.objs.size f cdv))) :
    PSs (cxOf C8.CX0 p.P p.w p.K mg base ["thing", "low", "high"] "is_within" (defScope s_is_within) f cdv A outer s H E).nox (defBody s_is_within) (t_is_within p) :=
  (pss_one (ps_ret (pe_and (C8.pe_c c_is_whole hr (by decide) rfl (pa_cons (pv 0) pa_nil)) (pe_one (pe_chain op_le op_le (pv 1) (pv 0) (pv 2))))))
theorem wk_is_name {p : Pm} {mg : Str → Option Value} {base : Heap} {A : Around} {outer : List Env} {s : Shared} {H : Hp} {E : XK} {f : Addr} {cdv : Value} (B : Blt mg) (C : Cns mg p) (hr : Room 0 (A.deeper (envOfC "is_name" (defScope s_is_name) s.heap.objs.size f cdv))) :
    PSs (cxOf C8.CX0 p.P p.w p.K mg base ["thing", "sign"] "is_name" (defScope s_is_name) f cdv A outer s H E).nox (defBody s_is_name) (t_is_name p) :=
  (pss_cons (ps_if (PW.pt (pw_or (pt_not (pt_val (pe_callB call_isi rfl B.isinstance bt_isinstance (pa_cons (pv 0) (pa_cons (pe_bltn rfl B.str bt_str rfl) pa_nil))))) (pw_or (pt_not (pt_chain op_le op_le pe_int (pe_callB call_len_str rfl B.len bt_len (pa_cons (pv 0) pa_nil)) (C8.pe_gc rfl C.LONGEST_NAME))) (pw_or1 (pt_cmpR op_notIn_sign (pe_ix ix_str (pv 0) pe_int (fun _ _ => rfl)) (C8.pe_gc rfl C.LETTERS) (by rfl)))))) (pss_one (ps_ret pe_bl)) pss_nil)
    (pss_one (ps_ret (pe_callB (cr_all rfl) rfl B.all bt_all (pa_cons (pe_lc (own := [("sign", 1)]) (g := (gName 1)) (tt := tYes) rfl sc_is_name.nd (pi_str (pv 0)) (blkOk_by (N := ["thing", "sign"]) (sc := defScope s_is_name) (by decide +kernel)) (fun _ _ _ _ _ => (pg_name (i := 1) sc_is_name.nd rfl (Or.inl rfl))) (fun _ _ _ _ _ => pts_nil) (fun _ _ _ _ _ => (pe_cmpR op_in_sign (pv 1) (pe_op op_add_str (C8.pe_gc rfl C.LETTERS) (C8.pe_gc rfl C.FIGURES)) (by rfl)))) pa_nil)))))
theorem wk_is_stretch {p : Pm} {mg : Str → Option Value} {base : Heap} {A : Around} {outer : List Env} {s : Shared} {H : Hp} {E : XK} {f : Addr} {cdv : Value} (B : Blt mg) (C : Cns mg p) (c_is_within : C8.Cal p.P p.w p.K mg base 2 "is_within" (sp_is_within p) []) (hr : Room 2 (A.deeper (envOfC "is_stretch" (defScope s_is_stretch) s.heap.objs.size f cdv))) :
    PSs (cxOf C8.CX0 p.P p.w p.K mg base ["thing"] "is_stretch" (defScope s_is_stretch) f cdv A outer s H E).nox (defBody s_is_stretch) (t_is_stretch p) :=
  (pss_cons (ps_if (PW.pt (pw_or (pt_not (pt_val (pe_callB call_isi rfl B.isinstance bt_isinstance (pa_cons (pv 0) (pa_cons (pe_bltn rfl B.tuple bt_tuple rfl) pa_nil))))) (pw_or (pt_cmpR op_ne (pe_callB call_len_seq rfl B.len bt_len (pa_cons (pv 0) pa_nil)) pe_int (nomark _)) (pw_or1 (pt_not (pt_val (C8.pe_c c_is_within hr (by decide) rfl (pa_cons (pe_ix ix_tup (pv 0) pe_int (fun _ _ => rfl)) (pa_cons pe_int (pa_cons (pe_op op_add (C8.pe_gc rfl C.MOST_TURN_stretches) pe_int) pa_nil)))))))))) (pss_one (ps_ret pe_bl)) pss_nil)
    (pss_one (ps_ret (C8.pe_c c_is_within hr (by decide) rfl (pa_cons (pe_ix ix_tup (pv 0) pe_int (fun _ _ => rfl)) (pa_cons (pe_op op_sub (pe_ix ix_tup (pv 0) pe_int (fun _ _ => rfl)) pe_int) (pa_cons (C8.pe_gc rfl C.MOST_TURN_stretches) pa_nil)))))))
theorem wk_need_stretch {p : Pm} {mg : Str → Option Value} {base : Heap} {A : Around} {outer : List Env} {s : Shared} {H : Hp} {E : XK} {f : Addr} {cdv : Value} (c_is_stretch : C8.Cal p.P p.w p.K mg base 3 "is_stretch" (sp_is_stretch p) []) (hr : Room 3 (A.deeper (envOfC "need_stretch" (defScope s_need_stretch) s.heap.objs.size f cdv))) :
    PSs (cxOf C8.CX0 p.P p.w p.K mg base ["thing"] "need_stretch" (defScope s_need_stretch) f cdv A outer s H E).nox (defBody s_need_stretch) (t_need_stretch p) :=
  (pss_one (ps_if (pt_not (pt_val (C8.pe_c c_is_stretch hr (by decide) rfl (pa_cons (pv 0) pa_nil)))) pss_never pss_nil))
theorem wk_need_failings {p : Pm} {mg : Str → Option Value} {base : Heap} {A : Around} {outer : List Env} {s : Shared} {H : Hp} {E : XK} {f : Addr} {cdv : Value} (C : Cns mg p) (c_is_within : C8.Cal p.P p.w p.K mg base 2 "is_within" (sp_is_within p) []) (hr : Room 2 (A.deeper (envOfC "need_failings" (defScope s_need_failings) s.heap.objs.size f cdv))) :
    PSs (cxOf C8.CX0 p.P p.w p.K mg base ["thing"] "need_failings" (defScope s_need_failings) f cdv A outer s H E).nox (defBody s_need_failings) (t_need_failings p) :=
  (pss_one (ps_if (pt_not (pt_val (C8.pe_c c_is_within hr (by decide) rfl (pa_cons (pv 0) (pa_cons pe_int (pa_cons (C8.pe_gc rfl C.MOST_FAILINGS) pa_nil)))))) pss_never pss_nil))
theorem wk_room {p : Pm} {mg : Str → Option Value} {base : Heap} {A : Around} {outer : List Env} {s : Shared} {H : Hp} {E : XK} {f : Addr} {cdv : Value} (c_need_stretch : C8.Cal p.P p.w p.K mg base 4 "need_stretch" (sp_need_stretch p) []) (hr : Room 4 (A.deeper (envOfC "room" (defScope s_room) s.heap.objs.size f cdv))) :
    PSs (cxOf C8.CX0 p.P p.w p.K mg base ["stretch"] "room" (defScope s_room) f cdv A outer s H E).nox (defBody s_room) (t_room p) :=
  (pss_cons (ps_expr (C8.pe_c c_need_stretch hr (by decide) rfl (pa_cons (pv 0) pa_nil)))
    (pss_one (ps_ret (pe_op op_add (pe_op op_sub (pe_ix ix_tup (pv 0) pe_int (fun _ _ => rfl)) (pe_ix ix_tup (pv 0) pe_int (fun _ _ => rfl))) pe_int))))
theorem wk_window_fault {p : Pm} {mg : Str → Option Value} {base : Heap} {A : Around} {outer : List Env} {s : Shared} {H : Hp} {E : XK} {f : Addr} {cdv : Value} (B : Blt mg) (C : Cns mg p) (c_is_within : C8.Cal p.P p.w p.K mg base 2 "is_within" (sp_is_within p) []) (hr : Room 2 (A.deeper (envOfC "window_fault" (defScope s_window_fault) s.heap.objs.size f cdv))) :
    PSs (cxOf C8.CX0 p.P p.w p.K mg base ["row"] "window_fault" (defScope s_window_fault) f cdv A outer s H E).nox (defBody s_window_fault) (t_window_fault p) :=
  (pss_cons (ps_if (pt_not (pt_val (C8.pe_c c_is_within hr (by decide) rfl (pa_cons (pe_ix ix_tup (pv 0) pe_int (fun _ _ => rfl)) (pa_cons pe_int (pa_cons (pe_op op_add (C8.pe_gc rfl C.MOST_TURN_pieces) pe_int) pa_nil)))))) (pss_one (ps_ret pe_str)) pss_nil)
    (pss_cons (ps_if (pt_not (pt_val (C8.pe_c c_is_within hr (by decide) rfl (pa_cons (pe_ix ix_tup (pv 0) pe_int (fun _ _ => rfl)) (pa_cons (pe_callB (call_max2 rfl) rfl B.max bt_max (pa_cons pe_int (pa_cons (pe_op op_sub (pe_ix ix_tup (pv 0) pe_int (fun _ _ => rfl)) pe_int) pa_nil))) (pa_cons (C8.pe_gc rfl C.MOST_TURN_pieces) pa_nil)))))) (pss_one (ps_ret pe_str)) pss_nil)
    (pss_cons (ps_if (pt_not (pt_val (C8.pe_c c_is_within hr (by decide) rfl (pa_cons (pe_ix ix_tup (pv 0) pe_int (fun _ _ => rfl)) (pa_cons pe_int (pa_cons (C8.pe_gc rfl C.MOST_LENGTH) pa_nil)))))) (pss_one (ps_ret pe_str)) pss_nil)
    (pss_cons (ps_if (PW.pt (pw_and (pt_cmpR op_eq (pe_callB call_len_seq rfl B.len bt_len (pa_cons (pv 0) pa_nil)) pe_int (nomark _)) (pw_and1 (pt_not (pt_val (C8.pe_c c_is_within hr (by decide) rfl (pa_cons (pe_ix ix_tup (pv 0) pe_int (fun _ _ => rfl)) (pa_cons pe_int (pa_cons (pe_ix ix_tup (pv 0) pe_int (fun _ _ => rfl)) pa_nil))))))))) (pss_one (ps_ret pe_str)) pss_nil)
    (pss_one (ps_ret pe_non))))))
theorem wk_row_fault {p : Pm} {mg : Str → Option Value} {base : Heap} {A : Around} {outer : List Env} {s : Shared} {H : Hp} {E : XK} {f : Addr} {cdv : Value} (B : Blt mg) (c_is_name : C8.Cal p.P p.w p.K mg base 1 "is_name" (sp_is_name p) []) (c_window_fault : C8.Cal p.P p.w p.K mg base 3 "window_fault" (sp_window_fault p) []) (hr : Room 3 (A.deeper (envOfC "row_fault" (defScope s_row_fault) s.heap.objs.size f cdv))) :
    PSs (cxOf C8.CX0 p.P p.w p.K mg base ["known", "row"] "row_fault" (defScope s_row_fault) f cdv A outer s H E).nox (defBody s_row_fault) (t_row_fault p) :=
  (pss_cons (ps_if (PW.pt (pw_or (pt_not (pt_val (pe_callB call_isi rfl B.isinstance bt_isinstance (pa_cons (pv 1) (pa_cons (pe_bltn rfl B.tuple bt_tuple rfl) pa_nil))))) (pw_or1 (pt_not (pt_chain op_le op_le pe_int (pe_callB call_len_seq rfl B.len bt_len (pa_cons (pv 1) pa_nil)) pe_int))))) (pss_one (ps_ret pe_str)) pss_nil)
    (pss_cons (ps_if (pt_not (pt_val (C8.pe_c c_is_name hr (by decide) rfl (pa_cons (pe_ix ix_tup (pv 1) pe_int (fun _ _ => rfl)) pa_nil)))) (pss_one (ps_ret pe_str)) pss_nil)
    (pss_cons (ps_if (pt_cmp (pc_din (hu_of hr) (pe_ix ix_tup (pv 1) pe_int (fun _ _ => rfl)) (pv 0))) (pss_one (ps_ret pe_str)) pss_nil)
    (pss_one (ps_ret (C8.pe_c c_window_fault hr (by decide) rfl (pa_cons (pv 1) pa_nil)))))))
theorem wk_five_of {p : Pm} {mg : Str → Option Value} {base : Heap} {A : Around} {outer : List Env} {s : Shared} {H : Hp} {E : XK} {f : Addr} {cdv : Value} (B : Blt mg) (hr : Room 0 (A.deeper (envOfC "five_of" (defScope s_five_of) s.heap.objs.size f cdv))) :
    PSs (cxOf C8.CX0 p.P p.w p.K mg base ["row"] "five_of" (defScope s_five_of) f cdv A outer s H E).nox (defBody s_five_of) (t_five_of p) :=
  (pss_cons (ps_if (pt_cmpR op_eq (pe_callB call_len_seq rfl B.len bt_len (pa_cons (pv 0) pa_nil)) pe_int (nomark _)) pss_never pss_nil)
    (pss_one (ps_ret (pv 0))))
theorem wk_five_rows {p : Pm} {mg : Str → Option Value} {base : Heap} {A : Around} {outer : List Env} {s : Shared} {H : Hp} {E : XK} {f : Addr} {cdv : Value} (B : Blt mg) (C : Cns mg p) (c_row_fault : C8.Cal p.P p.w p.K mg base 4 "row_fault" (sp_row_fault p) []) (c_five_of : C8.Cal p.P p.w p.K mg base 1 "five_of" (sp_five_of p) []) (hr : Room 4 (A.deeper (envOfC "five_rows" (defScope s_five_rows) s.heap.objs.size f cdv))) :
    PSs (cxOf C8.CX0 p.P p.w p.K mg base ["rows", "found", "at", "row", "why"] "five_rows" (defScope s_five_rows) f cdv A outer s H E).nox (defBody s_five_rows) (t_five_rows p) :=
  (pss_cons (ps_if (pt_not (pt_val (pe_callB call_isiT rfl B.isinstance bt_isinstance (pa_cons (pv 0) (pa_cons (pe_tup (pa_cons (pe_bltn rfl B.list bt_list rfl) (pa_cons (pe_bltn rfl B.tuple bt_tuple rfl) pa_nil))) pa_nil))))) pss_never pss_nil)
    (pss_cons (ps_if (pt_cmpR op_gt (pe_callB call_len_seq rfl B.len bt_len (pa_cons (pv 0) pa_nil)) (C8.pe_gc rfl C.MOST_PIECES) (nomark _)) pss_never pss_nil)
    (pss_cons (ps_set (i := 1) sc_five_rows.nd rfl (Or.inl rfl) pe_dnewK)
    (pss_cons (ps_for PassesOwn.never rfl (pi_enum rfl B.enumerate (pa_cons (pv 0) pa_nil)) (pg_tup rfl (pgs_cons (pg_name (i := 2) sc_five_rows.nd rfl (Or.inl rfl)) (pgs_cons (pg_name (i := 3) sc_five_rows.nd rfl (Or.inl rfl)) pgs_nil))) (pss_cons (ps_set (i := 4) sc_five_rows.nd rfl (Or.inl rfl) (C8.pe_c c_row_fault hr (by decide) rfl (pa_cons (pv 1) (pa_cons (pv 3) pa_nil))))
    (pss_cons (ps_if (pt_cmpR op_notN (pv 4) pe_non (nomark _)) pss_never pss_nil)
    (pss_one (ps_dput (hu_of hr) (pv 1) (pe_ix ix_tup (pv 3) pe_int (fun _ _ => rfl)) (C8.pe_c c_five_of hr (by decide) rfl (pa_cons (pv 3) pa_nil)) rfl)))))
    (pss_one (ps_ret (pv 1)))))))
theorem wk_Pieces_init {p : Pm} {mg : Str → Option Value} {base : Heap} {A : Around} {outer : List Env} {s : Shared} {H : Hp} {E : XK} {f : Addr} {cdv : Value} (c_five_rows : C8.Cal p.P p.w p.K mg base 5 "five_rows" (sp_five_rows p) []) (hr : Room 5 (A.deeper (envOfC "Pieces.__init__" (defScope s_Pieces_init) s.heap.objs.size f cdv))) :
    PSs (cxOf C8.CX0 p.P p.w p.K mg base ["self", "rows"] "Pieces.__init__" (defScope s_Pieces_init) f cdv A outer s H E).nox (defBody s_Pieces_init) (t_Pieces_init p) :=
  (pss_one (ps_fld (pv 0) (C8.pe_c c_five_rows hr (by decide) rfl (pa_cons (pv 1) pa_nil)) rfl))
theorem wk_Pieces_told {p : Pm} {mg : Str → Option Value} {base : Heap} {A : Around} {outer : List Env} {s : Shared} {H : Hp} {E : XK} {f : Addr} {cdv : Value} (B : Blt mg) (hr : Room 0 (A.deeper (envOfC "Pieces.told" (defScope s_Pieces_told) s.heap.objs.size f cdv))) :
    PSs (cxOf C8.CX0 p.P p.w p.K mg base ["self"] "Pieces.told" (defScope s_Pieces_told) f cdv A outer s H E).nox (defBody s_Pieces_told) (t_Pieces_told p) :=
  (pss_one (ps_ret (pe_callTy (cr_tupleV rfl) rfl B.tuple bt_tuple (pa_cons (pe_vals (pe_fld (pv 0) rfl)) pa_nil))))
theorem wk_Pieces_names {p : Pm} {mg : Str → Option Value} {base : Heap} {A : Around} {outer : List Env} {s : Shared} {H : Hp} {E : XK} {f : Addr} {cdv : Value} (B : Blt mg) (hr : Room 0 (A.deeper (envOfC "Pieces.names" (defScope s_Pieces_names) s.heap.objs.size f cdv))) :
    PSs (cxOf C8.CX0 p.P p.w p.K mg base ["self"] "Pieces.names" (defScope s_Pieces_names) f cdv A outer s H E).nox (defBody s_Pieces_names) (t_Pieces_names p) :=
  (pss_one (ps_ret (pe_callTy (call_list_dK rfl) rfl B.list bt_list (pa_cons (pe_fld (pv 0) rfl) pa_nil))))
theorem wk_Pieces_has {p : Pm} {mg : Str → Option Value} {base : Heap} {A : Around} {outer : List Env} {s : Shared} {H : Hp} {E : XK} {f : Addr} {cdv : Value} (B : Blt mg) (hr : Room 0 (A.deeper (envOfC "Pieces.has" (defScope s_Pieces_has) s.heap.objs.size f cdv))) :
    PSs (cxOf C8.CX0 p.P p.w p.K mg base ["self", "thing"] "Pieces.has" (defScope s_Pieces_has) f cdv A outer s H E).nox (defBody s_Pieces_has) (t_Pieces_has p) :=
  (pss_one (ps_ret (pe_and (pe_callB call_isi rfl B.isinstance bt_isinstance (pa_cons (pv 1) (pa_cons (pe_bltn rfl B.str bt_str rfl) pa_nil))) (pe_one (pe_cmp (pc_din (hu_of hr) (pv 1) (pe_fld (pv 0) rfl)))))))
theorem wk_Pieces_row {p : Pm} {mg : Str → Option Value} {base : Heap} {A : Around} {outer : List Env} {s : Shared} {H : Hp} {E : XK} {f : Addr} {cdv : Value} (m_Pieces_has : C8.Met p.P p.w p.K mg base 1 p.CP "has" (sp_Pieces_has p) []) (hr : Room 1 (A.deeper (envOfC "Pieces.row" (defScope s_Pieces_row) s.heap.objs.size f cdv))) :
    PSs (cxOf C8.CX0 p.P p.w p.K mg base ["self", "name"] "Pieces.row" (defScope s_Pieces_row) f cdv A outer s H E).nox (defBody s_Pieces_row) (t_Pieces_row p) :=
  (pss_cons (ps_if (pt_not (pt_val (C8.pe_mt m_Pieces_has hr (by decide) (pv 0) (pa_cons (pv 1) pa_nil)))) pss_never pss_nil)
    (pss_one (ps_ret (pe_dget (hu_of hr) (pe_fld (pv 0) rfl) (pv 1) (fun _ _ => rfl)))))
theorem wk_Pieces_with_row {p : Pm} {mg : Str → Option Value} {base : Heap} {A : Around} {outer : List Env} {s : Shared} {H : Hp} {E : XK} {f : Addr} {cdv : Value} (B : Blt mg) (k_Pieces : C8.Mak p.P p.w p.K mg base 6 "Pieces" p.CP (sp_Pieces_init p) []) (m_Pieces_told : C8.Met p.P p.w p.K mg base 1 p.CP "told" (sp_Pieces_told p) []) (hr : Room 7 (A.deeper (envOfC "Pieces.with_row" (defScope s_Pieces_with_row) s.heap.objs.size f cdv))) :
    PSs (cxOf C8.CX0 p.P p.w p.K mg base ["self", "row"] "Pieces.with_row" (defScope s_Pieces_with_row) f cdv A outer s H E).nox (defBody s_Pieces_with_row) (t_Pieces_with_row p) :=
  (pss_one (ps_ret (C8.pe_mk k_Pieces hr (by decide) rfl (pa_cons (pe_op op_cat (pe_callTy call_list_of rfl B.list bt_list (pa_cons (C8.pe_mt0 m_Pieces_told hr (by decide) (pv 0)) pa_nil)) (pe_lst (pa_cons (pv 1) pa_nil))) pa_nil))))
theorem wk_Pieces_without {p : Pm} {mg : Str → Option Value} {base : Heap} {A : Around} {outer : List Env} {s : Shared} {H : Hp} {E : XK} {f : Addr} {cdv : Value} (m_Pieces_row : C8.Met p.P p.w p.K mg base 2 p.CP "row" (sp_Pieces_row p) []) (k_Pieces : C8.Mak p.P p.w p.K mg base 6 "Pieces" p.CP (sp_Pieces_init p) []) (m_Pieces_told : C8.Met p.P p.w p.K mg base 1 p.CP "told" (sp_Pieces_told p) []) (hr : Room 7 (A.deeper (envOfC "Pieces.without" (defScope s_Pieces_without) s.heap.objs.size f cdv))) :
    PSs (cxOf C8.CX0 p.P p.w p.K mg base ["self", "name", "row", "other"] "Pieces.without" (defScope s_Pieces_without) f cdv A outer s H E).nox (defBody s_Pieces_without) (t_Pieces_without p) :=
  (pss_cons (ps_set (i := 2) sc_Pieces_without.nd rfl (Or.inr rfl) (C8.pe_mt m_Pieces_row hr (by decide) (pv 0) (pa_cons (pv 1) pa_nil)))
    (pss_one (ps_ret (C8.pe_mk k_Pieces hr (by decide) rfl (pa_cons (pe_lc (own := [("other", 3)]) (g := (gName 3)) (tt := (tTest (tOp (rNeD p.K) (tVar 3) (tVar 2)))) rfl sc_Pieces_without.nd (pi_tup (C8.pe_mt0 m_Pieces_told hr (by decide) (pv 0))) (blkOk_by (N := ["self", "name", "row", "other"]) (sc := defScope s_Pieces_without) (by decide +kernel)) (fun _ _ _ _ _ => (pg_name (i := 3) sc_Pieces_without.nd rfl (Or.inl rfl))) (fun _ _ _ _ _ => (pts_one (pt_cmpR (op_neD hr.units) (pv 3) (pv 2) (nomark _)))) (fun _ _ _ _ _ => (pv 3))) pa_nil)))))
theorem wk_Pieces_put_at {p : Pm} {mg : Str → Option Value} {base : Heap} {A : Around} {outer : List Env} {s : Shared} {H : Hp} {E : XK} {f : Addr} {cdv : Value} (k_Pieces : C8.Mak p.P p.w p.K mg base 6 "Pieces" p.CP (sp_Pieces_init p) []) (m_Pieces_told : C8.Met p.P p.w p.K mg base 1 p.CP "told" (sp_Pieces_told p) []) (hr : Room 7 (A.deeper (envOfC "Pieces.put_at" (defScope s_Pieces_put_at) s.heap.objs.size f cdv))) :
    PSs (cxOf C8.CX0 p.P p.w p.K mg base ["self", "name", "row", "other"] "Pieces.put_at" (defScope s_Pieces_put_at) f cdv A outer s H E).nox (defBody s_Pieces_put_at) (t_Pieces_put_at p) :=
  (pss_one (ps_ret (C8.pe_mk k_Pieces hr (by decide) rfl (pa_cons (pe_lc (own := [("other", 3)]) (g := (gName 3)) (tt := tYes) rfl sc_Pieces_put_at.nd (pi_tup (C8.pe_mt0 m_Pieces_told hr (by decide) (pv 0))) (blkOk_by (N := ["self", "name", "row", "other"]) (sc := defScope s_Pieces_put_at) (by decide +kernel)) (fun _ _ _ _ _ => (pg_name (i := 3) sc_Pieces_put_at.nd rfl (Or.inl rfl))) (fun _ _ _ _ _ => pts_nil) (fun _ _ _ _ _ => (pe_ifExp (pt_cmpR op_eq (pe_ix ix_tup (pv 3) pe_int (fun _ _ => rfl)) (pv 1) (nomark _)) (pv 2) (pv 3)))) pa_nil))))
theorem wk_Pieces_with_last {p : Pm} {mg : Str → Option Value} {base : Heap} {A : Around} {outer : List Env} {s : Shared} {H : Hp} {E : XK} {f : Addr} {cdv : Value} (m_Pieces_row : C8.Met p.P p.w p.K mg base 2 p.CP "row" (sp_Pieces_row p) []) (m_Pieces_put_at : C8.Met p.P p.w p.K mg base 8 p.CP "put_at" (sp_Pieces_put_at p) []) (hr : Room 8 (A.deeper (envOfC "Pieces.with_last" (defScope s_Pieces_with_last) s.heap.objs.size f cdv))) :
    PSs (cxOf C8.CX0 p.P p.w p.K mg base ["self", "name", "last", "row"] "Pieces.with_last" (defScope s_Pieces_with_last) f cdv A outer s H E).nox (defBody s_Pieces_with_last) (t_Pieces_with_last p) :=
  (pss_cons (ps_set (i := 3) sc_Pieces_with_last.nd rfl (Or.inl rfl) (C8.pe_mt m_Pieces_row hr (by decide) (pv 0) (pa_cons (pv 1) pa_nil)))
    (pss_one (ps_ret (C8.pe_mt m_Pieces_put_at hr (by decide) (pv 0) (pa_cons (pv 1) (pa_cons (pe_op op_catA (pe_op op_catA (pe_slice sl_tupA (pv 3) po_none (po_some pe_int)) (pe_tup (pa_cons (pv 2) pa_nil))) (pe_slice sl_tupA (pv 3) (po_some pe_int) po_none)) pa_nil))))))
theorem wk_rows_within {p : Pm} {mg : Str → Option Value} {base : Heap} {A : Around} {outer : List Env} {s : Shared} {H : Hp} {E : XK} {f : Addr} {cdv : Value} (c_need_stretch : C8.Cal p.P p.w p.K mg base 4 "need_stretch" (sp_need_stretch p) []) (m_Pieces_told : C8.Met p.P p.w p.K mg base 1 p.CP "told" (sp_Pieces_told p) []) (hr : Room 4 (A.deeper (envOfC "rows_within" (defScope s_rows_within) s.heap.objs.size f cdv))) :
    PSs (cxOf C8.CX0 p.P p.w p.K mg base ["pieces", "stretch", "row"] "rows_within" (defScope s_rows_within) f cdv A outer s H E).nox (defBody s_rows_within) (t_rows_within p) :=
  (pss_cons (ps_expr (C8.pe_c c_need_stretch hr (by decide) rfl (pa_cons (pv 1) pa_nil)))
    (pss_one (ps_ret (pe_lc (own := [("row", 2)]) (g := (gName 2)) (tt := (tAnd (tTest (tOp rGeI (tOp (rIxT p.K) (tVar 2) (tC (.int 1))) (tOp (rIxT p.K) (tVar 1) (tC (.int 0))))) (tTest (tOp rLeI (tOp (rIxT p.K) (tVar 2) (tC (.int 2))) (tOp (rIxT p.K) (tVar 1) (tC (.int 1))))))) rfl sc_rows_within.nd (pi_tup (C8.pe_mt0 m_Pieces_told hr (by decide) (pv 0))) (blkOk_by (N := ["pieces", "stretch", "row"]) (sc := defScope s_rows_within) (by decide +kernel)) (fun _ _ _ _ _ => (pg_name (i := 2) sc_rows_within.nd rfl (Or.inl rfl))) (fun _ _ _ _ _ => (pts_one (PW.pt (pw_and (pt_cmpR op_ge (pe_ix ix_tup (pv 2) pe_int (fun _ _ => rfl)) (pe_ix ix_tup (pv 1) pe_int (fun _ _ => rfl)) (nomark _)) (pw_and1 (pt_cmpR op_le (pe_ix ix_tup (pv 2) pe_int (fun _ _ => rfl)) (pe_ix ix_tup (pv 1) pe_int (fun _ _ => rfl)) (nomark _))))))) (fun _ _ _ _ _ => (pv 2))))))
theorem wk_lefts {p : Pm} {mg : Str → Option Value} {base : Heap} {A : Around} {outer : List Env} {s : Shared} {H : Hp} {E : XK} {f : Addr} {cdv : Value} (B : Blt mg) (c_rows_within : C8.Cal p.P p.w p.K mg base 5 "rows_within" (sp_rows_within p) []) (hr : Room 5 (A.deeper (envOfC "lefts" (defScope s_lefts) s.heap.objs.size f cdv))) :
    PSs (cxOf C8.CX0 p.P p.w p.K mg base ["pieces", "stretch", "row"] "lefts" (defScope s_lefts) f cdv A outer s H E).nox (defBody s_lefts) (t_lefts p) :=
  (pss_one (ps_ret (pe_callB (cr_sum rfl) rfl B.sum bt_sum (pa_cons (pe_lc (own := [("row", 2)]) (g := (gName 2)) (tt := tYes) rfl sc_lefts.nd (pi_list (C8.pe_c c_rows_within hr (by decide) rfl (pa_cons (pv 0) (pa_cons (pv 1) pa_nil)))) (blkOk_by (N := ["pieces", "stretch", "row"]) (sc := defScope s_lefts) (by decide +kernel)) (fun _ _ _ _ _ => (pg_name (i := 2) sc_lefts.nd rfl (Or.inl rfl))) (fun _ _ _ _ _ => pts_nil) (fun _ _ _ _ _ => (pe_ix ix_tup (pv 2) pe_int (fun _ _ => rfl)))) pa_nil))))
theorem wk_greatest_length {p : Pm} {mg : Str → Option Value} {base : Heap} {A : Around} {outer : List Env} {s : Shared} {H : Hp} {E : XK} {f : Addr} {cdv : Value} (B : Blt mg) (c_rows_within : C8.Cal p.P p.w p.K mg base 5 "rows_within" (sp_rows_within p) []) (hr : Room 5 (A.deeper (envOfC "greatest_length" (defScope s_greatest_length) s.heap.objs.size f cdv))) :
    PSs (cxOf C8.CX0 p.P p.w p.K mg base ["pieces", "stretch", "row"] "greatest_length" (defScope s_greatest_length) f cdv A outer s H E).nox (defBody s_greatest_length) (t_greatest_length p) :=
  (pss_one (ps_ret (pe_callBK (cr_maxDef rfl (hu_of hr)) rfl B.max bt_max (pa_cons (pe_lc (own := [("row", 2)]) (g := (gName 2)) (tt := tYes) rfl sc_greatest_length.nd (pi_list (C8.pe_c c_rows_within hr (by decide) rfl (pa_cons (pv 0) (pa_cons (pv 1) pa_nil)))) (blkOk_by (N := ["pieces", "stretch", "row"]) (sc := defScope s_greatest_length) (by decide +kernel)) (fun _ _ _ _ _ => (pg_name (i := 2) sc_greatest_length.nd rfl (Or.inl rfl))) (fun _ _ _ _ _ => pts_nil) (fun _ _ _ _ _ => (pe_ix ix_tup (pv 2) pe_int (fun _ _ => rfl)))) pa_nil) (pk_cons pe_int pk_nil))))
theorem wk_longest {p : Pm} {mg : Str → Option Value} {base : Heap} {A : Around} {outer : List Env} {s : Shared} {H : Hp} {E : XK} {f : Addr} {cdv : Value} (c_greatest_length : C8.Cal p.P p.w p.K mg base 6 "greatest_length" (sp_greatest_length p) []) (c_rows_within : C8.Cal p.P p.w p.K mg base 5 "rows_within" (sp_rows_within p) []) (hr : Room 6 (A.deeper (envOfC "longest" (defScope s_longest) s.heap.objs.size f cdv))) :
    PSs (cxOf C8.CX0 p.P p.w p.K mg base ["pieces", "stretch", "most", "row"] "longest" (defScope s_longest) f cdv A outer s H E).nox (defBody s_longest) (t_longest p) :=
  (pss_cons (ps_set (i := 2) sc_longest.nd rfl (Or.inl rfl) (C8.pe_c c_greatest_length hr (by decide) rfl (pa_cons (pv 0) (pa_cons (pv 1) pa_nil))))
    (pss_cons (ps_for PassesOwn.never rfl (pi_list (C8.pe_c c_rows_within hr (by decide) rfl (pa_cons (pv 0) (pa_cons (pv 1) pa_nil)))) (pg_name (i := 3) sc_longest.nd rfl (Or.inl rfl)) (pss_one (ps_if (pt_cmpR op_eq (pe_ix ix_tup (pv 3) pe_int (fun _ _ => rfl)) (pv 2) (nomark _)) (pss_one (ps_ret (pe_ix ix_tup (pv 3) pe_int (fun _ _ => rfl)))) pss_nil)))
    (pss_one (ps_ret pe_non))))
theorem wk_need {p : Pm} {mg : Str → Option Value} {base : Heap} {A : Around} {outer : List Env} {s : Shared} {H : Hp} {E : XK} {f : Addr} {cdv : Value} (c_need_stretch : C8.Cal p.P p.w p.K mg base 4 "need_stretch" (sp_need_stretch p) []) (c_need_failings : C8.Cal p.P p.w p.K mg base 3 "need_failings" (sp_need_failings p) []) (c_lefts : C8.Cal p.P p.w p.K mg base 6 "lefts" (sp_lefts p) []) (c_greatest_length : C8.Cal p.P p.w p.K mg base 6 "greatest_length" (sp_greatest_length p) []) (hr : Room 6 (A.deeper (envOfC "need" (defScope s_need) s.heap.objs.size f cdv))) :
    PSs (cxOf C8.CX0 p.P p.w p.K mg base ["pieces", "stretch", "failings"] "need" (defScope s_need) f cdv A outer s H E).nox (defBody s_need) (t_need p) :=
  (pss_cons (ps_expr (C8.pe_c c_need_stretch hr (by decide) rfl (pa_cons (pv 1) pa_nil)))
    (pss_cons (ps_expr (C8.pe_c c_need_failings hr (by decide) rfl (pa_cons (pv 2) pa_nil)))
    (pss_one (ps_ret (pe_op op_add (C8.pe_c c_lefts hr (by decide) rfl (pa_cons (pv 0) (pa_cons (pv 1) pa_nil))) (pe_op op_mulW (pv 2) (C8.pe_c c_greatest_length hr (by decide) rfl (pa_cons (pv 0) (pa_cons (pv 1) pa_nil)))))))))
theorem wk_stretches {p : Pm} {mg : Str → Option Value} {base : Heap} {A : Around} {outer : List Env} {s : Shared} {H : Hp} {E : XK} {f : Addr} {cdv : Value} (B : Blt mg) (m_Pieces_told : C8.Met p.P p.w p.K mg base 1 p.CP "told" (sp_Pieces_told p) []) (c_rows_within : C8.Cal p.P p.w p.K mg base 5 "rows_within" (sp_rows_within p) []) (hr : Room 5 (A.deeper (envOfC "stretches" (defScope s_stretches) s.heap.objs.size f cdv))) :
    PSs (cxOf C8.CX0 p.P p.w p.K mg base ["pieces", "starts", "row", "ends", "found", "start", "end"] "stretches" (defScope s_stretches) f cdv A outer s H E).nox (defBody s_stretches) (t_stretches p) :=
  (pss_cons (ps_set (i := 1) sc_stretches.nd rfl (Or.inl rfl) (pe_callB (cr_sortedSetB rfl) rfl B.sorted bt_sorted (pa_cons (pe_callTy (cr_setL rfl) rfl B.set bt_set (pa_cons (pe_lc (own := [("row", 2)]) (g := (gName 2)) (tt := tYes) rfl sc_stretches.nd (pi_tup (C8.pe_mt0 m_Pieces_told hr (by decide) (pv 0))) (blkOk_by (N := ["pieces", "starts", "row", "ends", "found", "start", "end"]) (sc := defScope s_stretches) (by decide +kernel)) (fun _ _ _ _ _ => (pg_name (i := 2) sc_stretches.nd rfl (Or.inl rfl))) (fun _ _ _ _ _ => pts_nil) (fun _ _ _ _ _ => (pe_ix ix_tup (pv 2) pe_int (fun _ _ => rfl)))) pa_nil)) pa_nil)))
    (pss_cons (ps_set (i := 3) sc_stretches.nd rfl (Or.inl rfl) (pe_callB (cr_sortedSetB rfl) rfl B.sorted bt_sorted (pa_cons (pe_callTy (cr_setL rfl) rfl B.set bt_set (pa_cons (pe_lc (own := [("row", 2)]) (g := (gName 2)) (tt := tYes) rfl sc_stretches.nd (pi_tup (C8.pe_mt0 m_Pieces_told hr (by decide) (pv 0))) (blkOk_by (N := ["pieces", "starts", "row", "ends", "found", "start", "end"]) (sc := defScope s_stretches) (by decide +kernel)) (fun _ _ _ _ _ => (pg_name (i := 2) sc_stretches.nd rfl (Or.inl rfl))) (fun _ _ _ _ _ => pts_nil) (fun _ _ _ _ _ => (pe_ix ix_tup (pv 2) pe_int (fun _ _ => rfl)))) pa_nil)) pa_nil)))
    (pss_cons (ps_set (i := 4) sc_stretches.nd rfl (Or.inl rfl) (pe_lst pa_nil))
    (pss_cons (ps_for PassesOwn.never rfl (pi_list (pv 1)) (pg_name (i := 5) sc_stretches.nd rfl (Or.inl rfl)) (pss_one (ps_for PassesOwn.never rfl (pi_list (pv 3)) (pg_name (i := 6) sc_stretches.nd rfl (Or.inl rfl)) (pss_one (ps_if (PW.pt (pw_and (pt_cmpR op_ge (pv 6) (pe_op op_sub (pv 5) pe_int) (nomark _)) (pw_and1 (pt_cmpR (op_neD hr.units) (C8.pe_c c_rows_within hr (by decide) rfl (pa_cons (pv 0) (pa_cons (pe_tup (pa_cons (pv 5) (pa_cons (pv 6) pa_nil))) pa_nil))) (pe_lst pa_nil) (nomark _))))) (pss_one (ps_expr (pe_bm PySem.F.plainAttrs_list PySem.F.slot_list_append PySem.F.type_list_append mt_append (pv 4) (pa_cons (pe_tup (pa_cons (pv 5) (pa_cons (pv 6) pa_nil))) pa_nil)))) pss_nil)))))
    (pss_one (ps_ret (pv 4)))))))
theorem wk_table {p : Pm} {mg : Str → Option Value} {base : Heap} {A : Around} {outer : List Env} {s : Shared} {H : Hp} {E : XK} {f : Addr} {cdv : Value} (c_need_failings : C8.Cal p.P p.w p.K mg base 3 "need_failings" (sp_need_failings p) []) (c_stretches : C8.Cal p.P p.w p.K mg base 6 "stretches" (sp_stretches p) []) (c_room : C8.Cal p.P p.w p.K mg base 5 "room" (sp_room p) []) (c_need : C8.Cal p.P p.w p.K mg base 7 "need" (sp_need p) []) (hr : Room 7 (A.deeper (envOfC "table" (defScope s_table) s.heap.objs.size f cdv))) :
    PSs (cxOf C8.CX0 p.P p.w p.K mg base ["pieces", "failings", "found", "start", "end"] "table" (defScope s_table) f cdv A outer s H E).nox (defBody s_table) (t_table p) :=
  (pss_cons (ps_expr (C8.pe_c c_need_failings hr (by decide) rfl (pa_cons (pv 1) pa_nil)))
    (pss_cons (ps_set (i := 2) sc_table.nd rfl (Or.inl rfl) (pe_lst pa_nil))
    (pss_cons (ps_for PassesOwn.never rfl (pi_list (C8.pe_c c_stretches hr (by decide) rfl (pa_cons (pv 0) pa_nil))) (pg_tup rfl (pgs_cons (pg_name (i := 3) sc_table.nd rfl (Or.inl rfl)) (pgs_cons (pg_name (i := 4) sc_table.nd rfl (Or.inl rfl)) pgs_nil))) (pss_one (ps_expr (pe_bm PySem.F.plainAttrs_list PySem.F.slot_list_append PySem.F.type_list_append mt_append (pv 2) (pa_cons (pe_tup (pa_cons (pv 3) (pa_cons (pv 4) (pa_cons (C8.pe_c c_need hr (by decide) rfl (pa_cons (pv 0) (pa_cons (pe_tup (pa_cons (pv 3) (pa_cons (pv 4) pa_nil))) (pa_cons (pv 1) pa_nil)))) (pa_cons (C8.pe_c c_room hr (by decide) rfl (pa_cons (pe_tup (pa_cons (pv 3) (pa_cons (pv 4) pa_nil))) pa_nil)) pa_nil))))) pa_nil)))))
    (pss_one (ps_ret (pv 2))))))
theorem wk_too_short {p : Pm} {mg : Str → Option Value} {base : Heap} {A : Around} {outer : List Env} {s : Shared} {H : Hp} {E : XK} {f : Addr} {cdv : Value} (c_table : C8.Cal p.P p.w p.K mg base 8 "table" (sp_table p) []) (hr : Room 8 (A.deeper (envOfC "too_short" (defScope s_too_short) s.heap.objs.size f cdv))) :
    PSs (cxOf C8.CX0 p.P p.w p.K mg base ["pieces", "failings", "start", "end", "wanted", "turns"] "too_short" (defScope s_too_short) f cdv A outer s H E).nox (defBody s_too_short) (t_too_short p) :=
  (pss_cons (ps_for PassesOwn.never rfl (pi_list (C8.pe_c c_table hr (by decide) rfl (pa_cons (pv 0) (pa_cons (pv 1) pa_nil)))) (pg_tup rfl (pgs_cons (pg_name (i := 2) sc_too_short.nd rfl (Or.inl rfl)) (pgs_cons (pg_name (i := 3) sc_too_short.nd rfl (Or.inl rfl)) (pgs_cons (pg_name (i := 4) sc_too_short.nd rfl (Or.inl rfl)) (pgs_cons (pg_name (i := 5) sc_too_short.nd rfl (Or.inl rfl)) pgs_nil))))) (pss_one (ps_if (pt_cmpR op_gt (pv 4) (pv 5) (nomark _)) (pss_one (ps_ret (pe_tup (pa_cons (pv 2) (pa_cons (pv 3) pa_nil))))) pss_nil)))
    (pss_one (ps_ret pe_non)))
theorem wk_is_kept {p : Pm} {mg : Str → Option Value} {base : Heap} {A : Around} {outer : List Env} {s : Shared} {H : Hp} {E : XK} {f : Addr} {cdv : Value} (c_too_short : C8.Cal p.P p.w p.K mg base 9 "too_short" (sp_too_short p) []) (hr : Room 9 (A.deeper (envOfC "is_kept" (defScope s_is_kept) s.heap.objs.size f cdv))) :
    PSs (cxOf C8.CX0 p.P p.w p.K mg base ["pieces", "failings"] "is_kept" (defScope s_is_kept) f cdv A outer s H E).nox (defBody s_is_kept) (t_is_kept p) :=
  (pss_one (ps_ret (pe_cmpR op_isN (C8.pe_c c_too_short hr (by decide) rfl (pa_cons (pv 0) (pa_cons (pv 1) pa_nil))) pe_non (nomark _))))
theorem wk_Paper_init {p : Pm} {mg : Str → Option Value} {base : Heap} {A : Around} {outer : List Env} {s : Shared} {H : Hp} {E : XK} {f : Addr} {cdv : Value} (c_need_failings : C8.Cal p.P p.w p.K mg base 3 "need_failings" (sp_need_failings p) []) (hr : Room 3 (A.deeper (envOfC "Paper.__init__" (defScope s_Paper_init) s.heap.objs.size f cdv))) :
    PSs (cxOf C8.CX0 p.P p.w p.K mg base ["self", "pieces", "failings"] "Paper.__init__" (defScope s_Paper_init) f cdv A outer s H E).nox (defBody s_Paper_init) (t_Paper_init p) :=
  (pss_cons (ps_expr (C8.pe_c c_need_failings hr (by decide) rfl (pa_cons (pv 2) pa_nil)))
    (pss_cons (ps_fld (pv 0) (pv 1) rfl)
    (pss_one (ps_fld (pv 0) (pv 2) rfl))))
theorem wk_Paper_failings {p : Pm} {mg : Str → Option Value} {base : Heap} {A : Around} {outer : List Env} {s : Shared} {H : Hp} {E : XK} {f : Addr} {cdv : Value} (hr : Room 0 (A.deeper (envOfC "Paper.failings" (defScope s_Paper_failings) s.heap.objs.size f cdv))) :
    PSs (cxOf C8.CX0 p.P p.w p.K mg base ["self"] "Paper.failings" (defScope s_Paper_failings) f cdv A outer s H E).nox (defBody s_Paper_failings) (t_Paper_failings p) :=
  (pss_one (ps_ret (pe_fld (pv 0) rfl)))
theorem wk_Kept_word {p : Pm} {mg : Str → Option Value} {base : Heap} {A : Around} {outer : List Env} {s : Shared} {H : Hp} {E : XK} {f : Addr} {cdv : Value} (hr : Room 0 (A.deeper (envOfC "Kept.word" (defScope s_Kept_word) s.heap.objs.size f cdv))) :
    PSs (cxOf C8.CX0 p.P p.w p.K mg base ["self"] "Kept.word" (defScope s_Kept_word) f cdv A outer s H E).nox (defBody s_Kept_word) (t_Kept_word p) :=
  (pss_one (ps_ret pe_str))
theorem wk_Kept_holds {p : Pm} {mg : Str → Option Value} {base : Heap} {A : Around} {outer : List Env} {s : Shared} {H : Hp} {E : XK} {f : Addr} {cdv : Value} (c_is_kept : C8.Cal p.P p.w p.K mg base 10 "is_kept" (sp_is_kept p) []) (hr : Room 10 (A.deeper (envOfC "Kept.holds" (defScope s_Kept_holds) s.heap.objs.size f cdv))) :
    PSs (cxOf C8.CX0 p.P p.w p.K mg base ["self"] "Kept.holds" (defScope s_Kept_holds) f cdv A outer s H E).nox (defBody s_Kept_holds) (t_Kept_holds p) :=
  (pss_one (ps_ret (C8.pe_c c_is_kept hr (by decide) rfl (pa_cons (pe_fld (pv 0) rfl) (pa_cons (pe_fld (pv 0) rfl) pa_nil)))))
theorem wk_quotient {p : Pm} {mg : Str → Option Value} {base : Heap} {A : Around} {outer : List Env} {s : Shared} {H : Hp} {E : XK} {f : Addr} {cdv : Value} (B : Blt mg) (c_room : C8.Cal p.P p.w p.K mg base 5 "room" (sp_room p) []) (c_lefts : C8.Cal p.P p.w p.K mg base 6 "lefts" (sp_lefts p) []) (hr : Room 6 (A.deeper (envOfC "quotient" (defScope s_quotient) s.heap.objs.size f cdv))) :
    PSs (cxOf C8.CX0 p.P p.w p.K mg base ["pieces", "stretch", "length"] "quotient" (defScope s_quotient) f cdv A outer s H E).nox (defBody s_quotient) (t_quotient p) :=
  (pss_one (ps_ret (pe_callB (call_max2 rfl) rfl B.max bt_max (pa_cons (pe_un un_neg pe_int) (pa_cons (pe_op op_fdivW (pe_op op_sub (C8.pe_c c_room hr (by decide) rfl (pa_cons (pv 1) pa_nil)) (C8.pe_c c_lefts hr (by decide) rfl (pa_cons (pv 0) (pa_cons (pv 1) pa_nil)))) (pv 2)) pa_nil)))))
theorem wk_length_of {p : Pm} {mg : Str → Option Value} {base : Heap} {A : Around} {outer : List Env} {s : Shared} {H : Hp} {E : XK} {f : Addr} {cdv : Value} (m_Pieces_row : C8.Met p.P p.w p.K mg base 2 p.CP "row" (sp_Pieces_row p) []) (hr : Room 2 (A.deeper (envOfC "length_of" (defScope s_length_of) s.heap.objs.size f cdv))) :
    PSs (cxOf C8.CX0 p.P p.w p.K mg base ["pieces", "name"] "length_of" (defScope s_length_of) f cdv A outer s H E).nox (defBody s_length_of) (t_length_of p) :=
  (pss_one (ps_ret (pe_ix ix_tup (C8.pe_mt m_Pieces_row hr (by decide) (pv 0) (pa_cons (pv 1) pa_nil)) pe_int (fun _ _ => rfl))))
theorem wk_borne {p : Pm} {mg : Str → Option Value} {base : Heap} {A : Around} {outer : List Env} {s : Shared} {H : Hp} {E : XK} {f : Addr} {cdv : Value} (B : Blt mg) (m_Pieces_names : C8.Met p.P p.w p.K mg base 1 p.CP "names" (sp_Pieces_names p) []) (c_stretches : C8.Cal p.P p.w p.K mg base 6 "stretches" (sp_stretches p) []) (c_quotient : C8.Cal p.P p.w p.K mg base 7 "quotient" (sp_quotient p) []) (c_length_of : C8.Cal p.P p.w p.K mg base 3 "length_of" (sp_length_of p) []) (c_longest_stretches : C8.Cal p.P p.w p.K mg base 7 "longest_stretches" (sp_longest p) []) (hr : Room 7 (A.deeper (envOfC "borne" (defScope s_borne) s.heap.objs.size f cdv))) :
    PSs (cxOf C8.CX0 p.P p.w p.K mg base ["pieces", "one"] "borne" (defScope s_borne) f cdv A outer s H E).nox (defBody s_borne) (t_borne p) :=
  (pss_cons (ps_if (pt_cmpR (op_eqD hr.units) (C8.pe_mt0 m_Pieces_names hr (by decide) (pv 0)) (pe_lst pa_nil) (nomark _)) (pss_one (ps_ret pe_non)) pss_nil)
    (pss_one (ps_ret (pe_callB (cr_min rfl) rfl B.min bt_min (pa_cons (pe_lc (own := [("one", 1)]) (g := (gName 1)) (tt := tYes) rfl sc_borne.nd (pi_list (C8.pe_c c_stretches hr (by decide) rfl (pa_cons (pv 0) pa_nil))) (blkOk_by (N := ["pieces", "one"]) (sc := defScope s_borne) (by decide +kernel)) (fun _ _ _ _ _ => (pg_name (i := 1) sc_borne.nd rfl (Or.inl rfl))) (fun _ _ _ _ _ => pts_nil) (fun _ _ _ _ _ => (C8.pe_c c_quotient hr (by decide) rfl (pa_cons (pv 0) (pa_cons (pv 1) (pa_cons (C8.pe_c c_length_of hr (by decide) rfl (pa_cons (pv 0) (pa_cons (C8.pe_c c_longest_stretches hr (by decide) rfl (pa_cons (pv 0) (pa_cons (pv 1) pa_nil))) pa_nil))) pa_nil)))))) pa_nil)))))
theorem wk_refused_with {p : Pm} {mg : Str → Option Value} {base : Heap} {A : Around} {outer : List Env} {s : Shared} {H : Hp} {E : XK} {f : Addr} {cdv : Value} (m_Pieces_with_row : C8.Met p.P p.w p.K mg base 8 p.CP "with_row" (sp_Pieces_with_row p) []) (c_is_kept : C8.Cal p.P p.w p.K mg base 10 "is_kept" (sp_is_kept p) []) (hr : Room 10 (A.deeper (envOfC "refused_with" (defScope s_refused_with) s.heap.objs.size f cdv))) :
    PSs (cxOf C8.CX0 p.P p.w p.K mg base ["pieces", "failings", "row", "found"] "refused_with" (defScope s_refused_with) f cdv A outer s H E).nox (defBody s_refused_with) (t_refused_with p) :=
  (pss_cons (ps_set (i := 3) sc_refused_with.nd rfl (Or.inl rfl) (C8.pe_mt m_Pieces_with_row hr (by decide) (pv 0) (pa_cons (pv 2) pa_nil)))
    (pss_cons (ps_if (PW.pt (pw_or (pt_val (C8.pe_c c_is_kept hr (by decide) rfl (pa_cons (pv 3) (pa_cons (pv 1) pa_nil)))) (pw_or1 (pt_not (pt_val (C8.pe_c c_is_kept hr (by decide) rfl (pa_cons (pv 0) (pa_cons (pv 1) pa_nil)))))))) pss_never pss_nil)
    (pss_one (ps_ret (pv 3)))))
theorem wk_is_counts {p : Pm} {mg : Str → Option Value} {base : Heap} {A : Around} {outer : List Env} {s : Shared} {H : Hp} {E : XK} {f : Addr} {cdv : Value} (B : Blt mg) (C : Cns mg p) (m_Pieces_has : C8.Met p.P p.w p.K mg base 1 p.CP "has" (sp_Pieces_has p) []) (c_is_within : C8.Cal p.P p.w p.K mg base 2 "is_within" (sp_is_within p) []) (hr : Room 2 (A.deeper (envOfC "is_counts" (defScope s_is_counts) s.heap.objs.size f cdv))) :
    PSs (cxOf C8.CX0 p.P p.w p.K mg base ["pieces", "thing", "name", "many"] "is_counts" (defScope s_is_counts) f cdv A outer s H E).nox (defBody s_is_counts) (t_is_counts p) :=
  (pss_cons (ps_if (pt_not (pt_val (pe_callB call_isi rfl B.isinstance bt_isinstance (pa_cons (pv 1) (pa_cons (pe_bltn rfl B.dict bt_dict rfl) pa_nil))))) (pss_one (ps_ret pe_bl)) pss_nil)
    (pss_cons (ps_lock (ps_for PassesOwn.never rfl (pi_items (pv 1)) (pg_tup rfl (pgs_cons (pg_name (i := 2) sc_is_counts.nd rfl (Or.inl rfl)) (pgs_cons (pg_name (i := 3) sc_is_counts.nd rfl (Or.inl rfl)) pgs_nil))) (pss_one (ps_if (PW.pt (pw_or (pt_not (pt_val (C8.pe_mt m_Pieces_has hr (by decide) (pv 0) (pa_cons (pv 2) pa_nil)))) (pw_or1 (pt_not (pt_val (C8.pe_c c_is_within hr (by decide) rfl (pa_cons (pv 3) (pa_cons pe_int (pa_cons (C8.pe_gc rfl C.MOST) pa_nil))))))))) (pss_one (ps_ret pe_bl)) pss_nil))))
    (pss_one (ps_ret (pe_cmpR op_le (pe_callB (cr_sum rfl) rfl B.sum bt_sum (pa_cons (pe_callTy (cr_listV rfl) rfl B.list bt_list (pa_cons (pe_vals (pv 1)) pa_nil)) pa_nil)) (C8.pe_gc rfl C.MOST) (nomark _))))))
theorem wk_need_counts {p : Pm} {mg : Str → Option Value} {base : Heap} {A : Around} {outer : List Env} {s : Shared} {H : Hp} {E : XK} {f : Addr} {cdv : Value} (c_is_counts : C8.Cal p.P p.w p.K mg base 3 "is_counts" (sp_is_counts p) []) (hr : Room 3 (A.deeper (envOfC "need_counts" (defScope s_need_counts) s.heap.objs.size f cdv))) :
    PSs (cxOf C8.CX0 p.P p.w p.K mg base ["pieces", "counts"] "need_counts" (defScope s_need_counts) f cdv A outer s H E).nox (defBody s_need_counts) (t_need_counts p) :=
  (pss_one (ps_if (pt_not (pt_val (C8.pe_c c_is_counts hr (by decide) rfl (pa_cons (pv 0) (pa_cons (pv 1) pa_nil))))) pss_never pss_nil))
theorem wk_Run_rests {p : Pm} {mg : Str → Option Value} {base : Heap} {A : Around} {outer : List Env} {s : Shared} {H : Hp} {E : XK} {f : Addr} {cdv : Value} (hr : Room 0 (A.deeper (envOfC "Run.rests" (defScope s_Run_rests) s.heap.objs.size f cdv))) :
    PSs (cxOf C8.CX0 p.P p.w p.K mg base ["self", "turn"] "Run.rests" (defScope s_Run_rests) f cdv A outer s H E).nox (defBody s_Run_rests) (t_Run_rests p) :=
  (pss_one (ps_ret pe_bl))
theorem wk_Run_rows {p : Pm} {mg : Str → Option Value} {base : Heap} {A : Around} {outer : List Env} {s : Shared} {H : Hp} {E : XK} {f : Addr} {cdv : Value} (B : Blt mg) (hr : Room 0 (A.deeper (envOfC "Run.rows" (defScope s_Run_rows) s.heap.objs.size f cdv))) :
    PSs (cxOf C8.CX0 p.P p.w p.K mg base ["self"] "Run.rows" (defScope s_Run_rows) f cdv A outer s H E).nox (defBody s_Run_rows) (t_Run_rows p) :=
  (pss_one (ps_ret (pe_callTy call_list_of rfl B.list bt_list (pa_cons (pe_fld (pv 0) rfl) pa_nil))))
theorem wk_Crowd_init {p : Pm} {mg : Str → Option Value} {base : Heap} {A : Around} {outer : List Env} {s : Shared} {H : Hp} {E : XK} {f : Addr} {cdv : Value} (C : Cns mg p) (x_Paper : PapX p mg base 4) (c_is_stretch : C8.Cal p.P p.w p.K mg base 3 "is_stretch" (sp_is_stretch p) []) (hr : Room 4 (A.deeper (envOfC "Crowd.__init__" (defScope s_Crowd_init) s.heap.objs.size f cdv))) :
    PSs (cxOf C8.CX0 p.P p.w p.K mg base ["self", "pieces", "failings", "stretch"] "Crowd.__init__" (defScope s_Crowd_init) f cdv A outer s H E).nox (defBody s_Crowd_init) (t_Crowd_init p) :=
  (pss_cons (ps_expr (pe_cx (p := p) rfl rfl rfl x_Paper (C8.pe_gc rfl C.Paper) hr (by decide) (pa_cons (pv 0) (pa_cons (pv 1) (pa_cons (pv 2) pa_nil)))))
    (pss_cons (ps_if (pt_not (pt_val (C8.pe_c c_is_stretch hr (by decide) rfl (pa_cons (pv 3) pa_nil)))) pss_never pss_nil)
    (pss_one (ps_fld (pv 0) (pv 3) rfl))))
theorem wk_paper_of {p : Pm} {mg : Str → Option Value} {base : Heap} {A : Around} {outer : List Env} {s : Shared} {H : Hp} {E : XK} {f : Addr} {cdv : Value} (c_too_short : C8.Cal p.P p.w p.K mg base 9 "too_short" (sp_too_short p) []) (k_Kept : C8.Mak p.P p.w p.K mg base 4 "Kept" p.CK (sp_Kept_init p) []) (k_Crowd : C8.Mak p.P p.w p.K mg base 5 "Crowd" p.CC (sp_Crowd_init p) []) (hr : Room 9 (A.deeper (envOfC "paper_of" (defScope s_paper_of) s.heap.objs.size f cdv))) :
    PSs (cxOf C8.CX0 p.P p.w p.K mg base ["pieces", "failings", "found"] "paper_of" (defScope s_paper_of) f cdv A outer s H E).nox (defBody s_paper_of) (t_paper_of p) :=
  (pss_cons (ps_set (i := 2) sc_paper_of.nd rfl (Or.inl rfl) (C8.pe_c c_too_short hr (by decide) rfl (pa_cons (pv 0) (pa_cons (pv 1) pa_nil))))
    (pss_cons (ps_if (pt_cmpR op_isN (pv 2) pe_non (nomark _)) (pss_one (ps_ret (C8.pe_mk k_Kept hr (by decide) rfl (pa_cons (pv 0) (pa_cons (pv 1) pa_nil))))) pss_nil)
    (pss_one (ps_ret (C8.pe_mk k_Crowd hr (by decide) rfl (pa_cons (pv 0) (pa_cons (pv 1) (pa_cons (pv 2) pa_nil))))))))
theorem wk_least_turns {p : Pm} {m : Lm} {mg : Str → Option Value} {base : Heap} {A : Around} {outer : List Env} {s : Shared} {H : Hp} {E : XK} {f : Addr} {cdv : Value} (c_is_kept : C8.Cal p.P p.w p.K mg base 10 "is_kept" (sp_is_kept p) []) (l_moved : ∀ cl c, LOk p.P p.w p.K mg base 10 (m.L.F cl c) m.b m.ps m.fr m.sp) (c_paper_of : C8.Cal p.P p.w p.K mg base 10 "paper_of" (sp_paper_of p) []) (k_Kept : C8.Mak p.P p.w p.K mg base 4 "Kept" p.CK (sp_Kept_init p) []) (hr : Room 10 (A.deeper (envOfC "least_turns" (defScope s_least_turns) s.heap.objs.size f cdv))) :
    PSs (cxOf C8.CX0 p.P p.w p.K mg base ["failings", "moved", "most", "low", "high", "middle"] "least_turns" (defScope s_least_turns) f cdv A outer s H E).nox (defBody s_least_turns) (t_least_turns p m) :=
  (pss_cons (ps_if (PW.pt (pw_or (pt_cmpR op_lt (pv 2) pe_int (nomark _)) (pw_or1 (pt_not (pt_val (C8.pe_c c_is_kept hr (by decide) rfl (pa_cons (pe_lamv l_moved hr (by decide) rfl (by first | exact Or.inl rfl | exact Or.inr (Or.inl rfl) | exact Or.inr (Or.inr rfl)) (pa_cons (pv 2) pa_nil)) (pa_cons (pv 0) pa_nil)))))))) (pss_one (ps_ret pe_non)) pss_nil)
    (pss_cons (ps_set (i := 3) sc_least_turns.nd rfl (Or.inl rfl) pe_int)
    (pss_cons (ps_set (i := 4) sc_least_turns.nd rfl (Or.inl rfl) (pv 2))
    (pss_cons (ps_while PassesOwn.never (pt_cmpR op_gt (pe_op op_sub (pv 4) (pv 3)) pe_int (nomark _)) (pss_cons (ps_set (i := 5) sc_least_turns.nd rfl (Or.inl rfl) (pe_op op_fdivW (pe_op op_add (pv 3) (pv 4)) pe_int))
    (pss_one (ps_if (pt_val (C8.pe_c c_is_kept hr (by decide) rfl (pa_cons (pe_lamv l_moved hr (by decide) rfl (by first | exact Or.inl rfl | exact Or.inr (Or.inl rfl) | exact Or.inr (Or.inr rfl)) (pa_cons (pv 5) pa_nil)) (pa_cons (pv 0) pa_nil)))) (pss_one (ps_set (i := 4) sc_least_turns.nd rfl (Or.inl rfl) (pv 5))) (pss_one (ps_set (i := 3) sc_least_turns.nd rfl (Or.inl rfl) (pv 5)))))))
    (pss_one (ps_ret (pe_tup (pa_cons (pv 4) (pa_cons (C8.pe_mk k_Kept hr (by decide) rfl (pa_cons (pe_lamv l_moved hr (by decide) rfl (by first | exact Or.inl rfl | exact Or.inr (Or.inl rfl) | exact Or.inr (Or.inr rfl)) (pa_cons (pv 4) pa_nil)) (pa_cons (pv 0) pa_nil))) (pa_cons (C8.pe_c c_paper_of hr (by decide) rfl (pa_cons (pe_lamv l_moved hr (by decide) rfl (by first | exact Or.inl rfl | exact Or.inr (Or.inl rfl) | exact Or.inr (Or.inr rfl)) (pa_cons (pv 3) pa_nil)) (pa_cons (pv 0) pa_nil))) pa_nil))))))))))
theorem wk_fewer {p : Pm} {mg : Str → Option Value} {base : Heap} {A : Around} {outer : List Env} {s : Shared} {H : Hp} {E : XK} {f : Addr} {cdv : Value} (c_need_failings : C8.Cal p.P p.w p.K mg base 3 "need_failings" (sp_need_failings p) []) (c_borne : C8.Cal p.P p.w p.K mg base 8 "borne" (sp_borne p) []) (c_refused_with : C8.Cal p.P p.w p.K mg base 11 "refused_with" (sp_refused_with p) []) (hr : Room 11 (A.deeper (envOfC "fewer" (defScope s_fewer) s.heap.objs.size f cdv))) :
    PSs (cxOf C8.CX0 p.P p.w p.K mg base ["pieces", "failings", "row"] "fewer" (defScope s_fewer) f cdv A outer s H E).nox (defBody s_fewer) (t_fewer p) :=
  (pss_cons (ps_expr (C8.pe_c c_need_failings hr (by decide) rfl (pa_cons (pv 1) pa_nil)))
    (pss_one (ps_ret (C8.pe_c c_borne hr (by decide) rfl (pa_cons (C8.pe_c c_refused_with hr (by decide) rfl (pa_cons (pv 0) (pa_cons (pv 1) (pa_cons (pv 2) pa_nil)))) pa_nil)))))
theorem wk_instead_of {p : Pm} {mg : Str → Option Value} {base : Heap} {A : Around} {outer : List Env} {s : Shared} {H : Hp} {E : XK} {f : Addr} {cdv : Value} (c_need_failings : C8.Cal p.P p.w p.K mg base 3 "need_failings" (sp_need_failings p) []) (c_refused_with : C8.Cal p.P p.w p.K mg base 11 "refused_with" (sp_refused_with p) []) (m_Pieces_names : C8.Met p.P p.w p.K mg base 1 p.CP "names" (sp_Pieces_names p) []) (m_Pieces_without : C8.Met p.P p.w p.K mg base 8 p.CP "without" (sp_Pieces_without p) []) (c_is_kept : C8.Cal p.P p.w p.K mg base 10 "is_kept" (sp_is_kept p) []) (k_Kept : C8.Mak p.P p.w p.K mg base 4 "Kept" p.CK (sp_Kept_init p) []) (hr : Room 11 (A.deeper (envOfC "instead_of" (defScope s_instead_of) s.heap.objs.size f cdv))) :
    PSs (cxOf C8.CX0 p.P p.w p.K mg base ["pieces", "failings", "row", "found", "told", "name", "others"] "instead_of" (defScope s_instead_of) f cdv A outer s H E).nox (defBody s_instead_of) (t_instead_of p) :=
  (pss_cons (ps_expr (C8.pe_c c_need_failings hr (by decide) rfl (pa_cons (pv 1) pa_nil)))
    (pss_cons (ps_set (i := 3) sc_instead_of.nd rfl (Or.inl rfl) (C8.pe_c c_refused_with hr (by decide) rfl (pa_cons (pv 0) (pa_cons (pv 1) (pa_cons (pv 2) pa_nil)))))
    (pss_cons (ps_set (i := 4) sc_instead_of.nd rfl (Or.inl rfl) (pe_lst pa_nil))
    (pss_cons (ps_for PassesOwn.never rfl (pi_list (C8.pe_mt0 m_Pieces_names hr (by decide) (pv 0))) (pg_name (i := 5) sc_instead_of.nd rfl (Or.inl rfl)) (pss_cons (ps_set (i := 6) sc_instead_of.nd rfl (Or.inl rfl) (C8.pe_mt m_Pieces_without hr (by decide) (pv 3) (pa_cons (pv 5) pa_nil)))
    (pss_one (ps_if (pt_val (C8.pe_c c_is_kept hr (by decide) rfl (pa_cons (pv 6) (pa_cons (pv 1) pa_nil)))) (pss_one (ps_expr (pe_bm PySem.F.plainAttrs_list PySem.F.slot_list_append PySem.F.type_list_append mt_append (pv 4) (pa_cons (pe_tup (pa_cons (pv 5) (pa_cons (C8.pe_mk k_Kept hr (by decide) rfl (pa_cons (pv 6) (pa_cons (pv 1) pa_nil))) pa_nil))) pa_nil)))) pss_nil))))
    (pss_one (ps_ret (pv 4)))))))
theorem wk_law_cell {p : Pm} {mg : Str → Option Value} {base : Heap} {A : Around} {outer : List Env} {s : Shared} {H : Hp} {E : XK} {f : Addr} {cdv : Value} (B : Blt mg) (hr : Room 0 (A.deeper (envOfC "_law_cell" (defScope s_law_cell) s.heap.objs.size f cdv))) :
    PSs (cxOf C8.CX0 p.P p.w p.K mg base ["_law_script", "_law_k"] "_law_cell" (defScope s_law_cell) f cdv A outer s H E).nox (defBody s_law_cell) (t_law_cell p) :=
  (pss_cons (ps_if (pt_cmpR op_lt (pv 1) (pe_callB call_len_seq rfl B.len bt_len (pa_cons (pv 0) pa_nil)) (nomark _)) (pss_one (ps_ret (pe_ix ix_list (pv 0) (pv 1) (fun _ _ => rfl)))) pss_nil)
    (pss_cons (ps_if (pt_cmpR op_eq (pe_callB call_len_seq rfl B.len bt_len (pa_cons (pv 0) pa_nil)) pe_int (nomark _)) (pss_one (ps_ret (pe_op op_add (pe_op op_mulW pe_int (pv 1)) pe_int))) pss_nil)
    (pss_one (ps_ret (pe_op op_add (pe_op op_fdivW (pe_ix ix_list (pv 0) (pe_op op_mod (pv 1) (pe_callB call_len_seq rfl B.len bt_len (pa_cons (pv 0) pa_nil))) (fun _ _ => rfl)) (pe_op op_add (pv 1) pe_int)) (pe_op op_mulW pe_int (pv 1)))))))
theorem wk_law_box {p : Pm} {mg : Str → Option Value} {base : Heap} {A : Around} {outer : List Env} {s : Shared} {H : Hp} {E : XK} {f : Addr} {cdv : Value} (B : Blt mg) (hr : Room 0 (A.deeper (envOfC "_law_box" (defScope s_law_box) s.heap.objs.size f cdv))) :
    PSs (cxOf C8.CX0 p.P p.w p.K mg base ["_law_cell_here"] "_law_box" (defScope s_law_box) f cdv A outer s H E).nox (defBody s_law_box) (t_law_box p) :=
  (pss_one (ps_ret (pe_lst (pa_cons (pe_callB (call_max2 rfl) rfl B.max bt_max (pa_cons pe_int (pa_cons (pe_op op_sub (pv 0) (pe_op op_pow pe_int pe_int)) pa_nil))) (pa_cons (pe_op op_mod (pv 0) pe_int) (pa_cons pe_int pa_nil))))))
theorem wk_law_take {p : Pm} {mg : Str → Option Value} {base : Heap} {A : Around} {outer : List Env} {s : Shared} {H : Hp} {E : XK} {f : Addr} {cdv : Value} (hr : Room 0 (A.deeper (envOfC "_law_take" (defScope s_law_take) s.heap.objs.size f cdv))) :
    PSs (cxOf C8.CX0 p.P p.w p.K mg base ["_law_box_here", "_law_many", "_law_digit", "_law_number"] "_law_take" (defScope s_law_take) f cdv A outer s H E).nox (defBody s_law_take) (t_law_take p) :=
  (pss_cons (ps_if (pt_cmpR op_gt (pe_ix ix_list (pv 0) pe_int (fun _ _ => rfl)) pe_int (nomark _)) (pss_cons (ps_set (i := 2) sc_law_take.nd rfl (Or.inl rfl) (pe_op op_mod (pe_ix ix_list (pv 0) pe_int (fun _ _ => rfl)) (pv 1)))
    (pss_cons (ps_asg (pe_op op_fdivW (pe_ix ix_list (pv 0) pe_int (fun _ _ => rfl)) (pv 1)) (pg_sub (pv 0) pe_int set_list))
    (pss_one (ps_ret (pv 2))))) pss_nil)
    (pss_cons (ps_asg (pe_op op_add (pe_ix ix_list (pv 0) pe_int (fun _ _ => rfl)) pe_int) (pg_sub (pv 0) pe_int set_list))
    (pss_cons (ps_set (i := 3) sc_law_take.nd rfl (Or.inl rfl) (pe_op op_mod (pe_op op_add (pe_op op_add (pe_op op_mulW (pe_ix ix_list (pv 0) pe_int (fun _ _ => rfl)) pe_int) (pe_op op_mulW pe_int (pe_ix ix_list (pv 0) pe_int (fun _ _ => rfl)))) pe_int) pe_int))
    (pss_cons (ps_set (i := 3) sc_law_take.nd rfl (Or.inl rfl) (pe_op op_mod (pe_op op_mulW (pe_op op_mod (pe_op op_mulW (pv 3) (pv 3)) pe_int) pe_int) pe_int))
    (pss_one (ps_ret (pe_op op_mod (pe_op op_fdivW (pe_op op_mod (pe_op op_mulW (pv 3) (pv 3)) pe_int) pe_int) (pv 1))))))))
theorem wk_law_names {p : Pm} {mg : Str → Option Value} {base : Heap} {A : Around} {outer : List Env} {s : Shared} {H : Hp} {E : XK} {f : Addr} {cdv : Value} (B : Blt mg) (c_law_take : C8.Cal p.P p.w p.K mg base 1 "_law_take" (sp_law_take p) []) (hr : Room 1 (A.deeper (envOfC "_law_names" (defScope s_law_names) s.heap.objs.size f cdv))) :
    PSs (cxOf C8.CX0 p.P p.w p.K mg base ["_law_box_here", "_law_many", "_law_letters", "_law_words", "_law_at", "_law_k", "_law_base", "_law_first", "_law_names_here", "_law_sign"] "_law_names" (defScope s_law_names) f cdv A outer s H E).nox (defBody s_law_names) (t_law_names p) :=
  (pss_cons (ps_set (i := 2) sc_law_names.nd rfl (Or.inr rfl) pe_str)
    (pss_cons (ps_set (i := 3) sc_law_names.nd rfl (Or.inr rfl) (pe_lst (pa_cons pe_str (pa_cons pe_str (pa_cons pe_str (pa_cons pe_str (pa_cons pe_str (pa_cons pe_str (pa_cons pe_str (pa_cons pe_str (pa_cons pe_str (pa_cons pe_str (pa_cons pe_str (pa_cons pe_str (pa_cons pe_str (pa_cons pe_str pa_nil))))))))))))))))
    (pss_cons (ps_if (PW.pt (pw_and (pt_cmpR op_lt (pv 1) pe_int (nomark _)) (pw_and1 (pt_cmpR op_eq (C8.pe_c c_law_take hr (by decide) rfl (pa_cons (pv 0) (pa_cons pe_int pa_nil))) pe_int (nomark _))))) (pss_cons (ps_set (i := 4) sc_law_names.nd rfl (Or.inr rfl) (C8.pe_c c_law_take hr (by decide) rfl (pa_cons (pv 0) (pa_cons pe_int pa_nil))))
    (pss_one (ps_ret (pe_lc (own := [("_law_k", 5)]) (g := (gName 5)) (tt := tYes) rfl sc_law_names.nd (pi_range1 rfl B.range (pa_cons (pv 1) pa_nil)) (blkOk_by (N := ["_law_box_here", "_law_many", "_law_letters", "_law_words", "_law_at", "_law_k", "_law_base", "_law_first", "_law_names_here", "_law_sign"]) (sc := defScope s_law_names) (by decide +kernel)) (fun _ _ _ _ _ => (pg_name (i := 5) sc_law_names.nd rfl (Or.inl rfl))) (fun _ _ _ _ _ => pts_nil) (fun _ _ _ _ _ => (pe_ix ix_list (pv 3) (pe_op op_mod (pe_op op_add (pv 4) (pe_op op_mulW pe_int (pv 5))) pe_int) (fun _ _ => rfl))))))) pss_nil)
    (pss_cons (ps_set (i := 6) sc_law_names.nd rfl (Or.inl rfl) (pe_join pe_str (pe_lc (own := [("_law_k", 5)]) (g := (gName 5)) (tt := tYes) rfl sc_law_names.nd (pi_range1 rfl B.range (pa_cons (C8.pe_c c_law_take hr (by decide) rfl (pa_cons (pv 0) (pa_cons pe_int pa_nil))) pa_nil)) (blkOk_by (N := ["_law_box_here", "_law_many", "_law_letters", "_law_words", "_law_at", "_law_k", "_law_base", "_law_first", "_law_names_here", "_law_sign"]) (sc := defScope s_law_names) (by decide +kernel)) (fun _ _ _ _ _ => (pg_name (i := 5) sc_law_names.nd rfl (Or.inl rfl))) (fun _ _ _ _ _ => pts_nil) (fun _ _ _ _ _ => (pe_ix ix_str (pv 2) (C8.pe_c c_law_take hr (by decide) rfl (pa_cons (pv 0) (pa_cons pe_int pa_nil))) (fun _ _ => rfl))))))
    (pss_cons (ps_set (i := 4) sc_law_names.nd rfl (Or.inr rfl) (C8.pe_c c_law_take hr (by decide) rfl (pa_cons (pv 0) (pa_cons (pe_op op_add (pe_callB call_len_str rfl B.len bt_len (pa_cons (pv 6) pa_nil)) pe_int) pa_nil))))
    (pss_cons (ps_set (i := 7) sc_law_names.nd rfl (Or.inl rfl) (C8.pe_c c_law_take hr (by decide) rfl (pa_cons (pv 0) (pa_cons pe_int pa_nil))))
    (pss_cons (ps_set (i := 8) sc_law_names.nd rfl (Or.inl rfl) (pe_lst pa_nil))
    (pss_cons (ps_for PassesOwn.never rfl (pi_range1 rfl B.range (pa_cons (pv 1) pa_nil)) (pg_name (i := 5) sc_law_names.nd rfl (Or.inl rfl)) (pss_cons (ps_set (i := 9) sc_law_names.nd rfl (Or.inl rfl) (pe_op op_add_str (pe_ix ix_str (pv 2) (pe_op op_mod (pe_op op_add (pv 7) (pe_op op_mulW pe_int (pv 5))) pe_int) (fun _ _ => rfl)) (pe_ix ix_list (pe_lst (pa_cons pe_str (pa_cons pe_str pa_nil))) (pe_op op_fdivW (pv 5) pe_int) (fun _ _ => rfl))))
    (pss_one (ps_expr (pe_bm PySem.F.plainAttrs_list PySem.F.slot_list_append PySem.F.type_list_append mt_append (pv 8) (pa_cons (pe_op op_add_str (pe_op op_add_str (pe_op op_add_str (pe_slice C8.sl_txt (pv 6) po_none (po_some (pv 4))) (pv 9)) (pe_slice C8.sl_txt (pv 6) (po_some (pv 4)) po_none)) (pe_slice C8.sl_txt pe_str po_none (po_some (pe_op op_mod (pv 5) pe_int)))) pa_nil))))))
    (pss_one (ps_ret (pv 8)))))))))))
theorem wk_law_need {p : Pm} {mg : Str → Option Value} {base : Heap} {A : Around} {outer : List Env} {s : Shared} {H : Hp} {E : XK} {f : Addr} {cdv : Value} (B : Blt mg) (hr : Room 0 (A.deeper (envOfC "_law_need" (defScope s_law_need) s.heap.objs.size f cdv))) :
    PSs (cxOf C8.CX0 p.P p.w p.K mg base ["_law_rows", "_law_start", "_law_end", "_law_failings", "_law_inside", "_law_row"] "_law_need" (defScope s_law_need) f cdv A outer s H E).nox (defBody s_law_need) (t_law_need p) :=
  (pss_cons (ps_setLc (i := 4) (own := [("_law_row", 5)]) (g := (gName 5)) (tt := (tAnd (tTest (tOp rLeI (tVar 1) (tOp (rIxT p.K) (tVar 5) (tC (.int 1))))) (tTest (tOp rLeI (tOp (rIxT p.K) (tVar 5) (tC (.int 2))) (tVar 2))))) rfl sc_law_need.nd rfl rfl (sw_true rfl rfl rfl (by decide +kernel)) (pi_list (pv 0)) (blkOk_by (N := ["_law_rows", "_law_start", "_law_end", "_law_failings", "_law_inside", "_law_row"]) (sc := defScope s_law_need) (by decide +kernel)) (fun _ _ _ _ _ => (pg_name (i := 5) sc_law_need.nd rfl (Or.inl rfl))) (fun _ _ _ _ _ => (pts_one (PW.pt (pw_and (pt_cmpR op_le (pv 1) (pe_ix ix_tup (pv 5) pe_int (fun _ _ => rfl)) (nomark _)) (pw_and1 (pt_cmpR op_le (pe_ix ix_tup (pv 5) pe_int (fun _ _ => rfl)) (pv 2) (nomark _))))))) (fun _ _ _ _ _ => (pv 5)))
    (pss_one (ps_ret (pe_op op_add (pe_callB (cr_sum rfl) rfl B.sum bt_sum (pa_cons (pe_lc (own := [("_law_row", 5)]) (g := (gName 5)) (tt := tYes) rfl sc_law_need.nd (pi_list (pv 4)) (blkOk_by (N := ["_law_rows", "_law_start", "_law_end", "_law_failings", "_law_inside", "_law_row"]) (sc := defScope s_law_need) (by decide +kernel)) (fun _ _ _ _ _ => (pg_name (i := 5) sc_law_need.nd rfl (Or.inl rfl))) (fun _ _ _ _ _ => pts_nil) (fun _ _ _ _ _ => (pe_ix ix_tup (pv 5) pe_int (fun _ _ => rfl)))) pa_nil)) (pe_op op_mulW (pv 3) (pe_callB (cr_max rfl) rfl B.max bt_max (pa_cons (pe_op op_cat (pe_lc (own := [("_law_row", 5)]) (g := (gName 5)) (tt := tYes) rfl sc_law_need.nd (pi_list (pv 4)) (blkOk_by (N := ["_law_rows", "_law_start", "_law_end", "_law_failings", "_law_inside", "_law_row"]) (sc := defScope s_law_need) (by decide +kernel)) (fun _ _ _ _ _ => (pg_name (i := 5) sc_law_need.nd rfl (Or.inl rfl))) (fun _ _ _ _ _ => pts_nil) (fun _ _ _ _ _ => (pe_ix ix_tup (pv 5) pe_int (fun _ _ => rfl)))) (pe_lst (pa_cons pe_int pa_nil))) pa_nil)))))))
theorem wk_law_short {p : Pm} {mg : Str → Option Value} {base : Heap} {A : Around} {outer : List Env} {s : Shared} {H : Hp} {E : XK} {f : Addr} {cdv : Value} (B : Blt mg) (c_law_need : C8.Cal p.P p.w p.K mg base 1 "_law_need" (sp_law_need p) []) (hr : Room 1 (A.deeper (envOfC "_law_short" (defScope s_law_short) s.heap.objs.size f cdv))) :
    PSs (cxOf C8.CX0 p.P p.w p.K mg base ["_law_rows", "_law_failings", "_law_found", "_law_start", "_law_row", "_law_end"] "_law_short" (defScope s_law_short) f cdv A outer s H E).nox (defBody s_law_short) (t_law_short p) :=
  (pss_cons (ps_set (i := 2) sc_law_short.nd rfl (Or.inl rfl) (pe_lst pa_nil))
    (pss_cons (ps_for PassesOwn.never rfl (pi_list (pe_callB (cr_sortedSetB rfl) rfl B.sorted bt_sorted (pa_cons (pe_callTy (cr_setL rfl) rfl B.set bt_set (pa_cons (pe_lc (own := [("_law_row", 4)]) (g := (gName 4)) (tt := tYes) rfl sc_law_short.nd (pi_list (pv 0)) (blkOk_by (N := ["_law_rows", "_law_failings", "_law_found", "_law_start", "_law_row", "_law_end"]) (sc := defScope s_law_short) (by decide +kernel)) (fun _ _ _ _ _ => (pg_name (i := 4) sc_law_short.nd rfl (Or.inl rfl))) (fun _ _ _ _ _ => pts_nil) (fun _ _ _ _ _ => (pe_ix ix_tup (pv 4) pe_int (fun _ _ => rfl)))) pa_nil)) pa_nil))) (pg_name (i := 3) sc_law_short.nd rfl (Or.inl rfl)) (pss_one (ps_for PassesOwn.never rfl (pi_list (pe_callB (cr_sortedSetB rfl) rfl B.sorted bt_sorted (pa_cons (pe_callTy (cr_setL rfl) rfl B.set bt_set (pa_cons (pe_lc (own := [("_law_row", 4)]) (g := (gName 4)) (tt := tYes) rfl sc_law_short.nd (pi_list (pv 0)) (blkOk_by (N := ["_law_rows", "_law_failings", "_law_found", "_law_start", "_law_row", "_law_end"]) (sc := defScope s_law_short) (by decide +kernel)) (fun _ _ _ _ _ => (pg_name (i := 4) sc_law_short.nd rfl (Or.inl rfl))) (fun _ _ _ _ _ => pts_nil) (fun _ _ _ _ _ => (pe_ix ix_tup (pv 4) pe_int (fun _ _ => rfl)))) pa_nil)) pa_nil))) (pg_name (i := 5) sc_law_short.nd rfl (Or.inl rfl)) (pss_one (ps_if (PW.pt (pw_and (pt_cmpR op_ge (pv 5) (pe_op op_sub (pv 3) pe_int) (nomark _)) (pw_and1 (pt_cmpR op_gt (C8.pe_c c_law_need hr (by decide) rfl (pa_cons (pv 0) (pa_cons (pv 3) (pa_cons (pv 5) (pa_cons (pv 1) pa_nil))))) (pe_op op_add (pe_op op_sub (pv 5) (pv 3)) pe_int) (nomark _))))) (pss_one (ps_expr (pe_bm PySem.F.plainAttrs_list PySem.F.slot_list_append PySem.F.type_list_append mt_append (pv 2) (pa_cons (pe_tup (pa_cons (pv 3) (pa_cons (pv 5) pa_nil))) pa_nil)))) pss_nil)))))
    (pss_one (ps_ret (pv 2)))))
theorem wk_law_drawn_row {p : Pm} {mg : Str → Option Value} {base : Heap} {A : Around} {outer : List Env} {s : Shared} {H : Hp} {E : XK} {f : Addr} {cdv : Value} (B : Blt mg) (c_law_take : C8.Cal p.P p.w p.K mg base 1 "_law_take" (sp_law_take p) []) (hr : Room 1 (A.deeper (envOfC "_law_drawn_row" (defScope s_law_drawn_row) s.heap.objs.size f cdv))) :
    PSs (cxOf C8.CX0 p.P p.w p.K mg base ["_law_box_here", "_law_name", "_law_turns", "_law_long", "_law_first", "_law_last", "_law_length", "_law_left"] "_law_drawn_row" (defScope s_law_drawn_row) f cdv A outer s H E).nox (defBody s_law_drawn_row) (t_law_drawn_row p) :=
  (pss_cons (ps_set (i := 4) sc_law_drawn_row.nd rfl (Or.inl rfl) (C8.pe_c c_law_take hr (by decide) rfl (pa_cons (pv 0) (pa_cons (pv 2) pa_nil))))
    (pss_cons (ps_set (i := 5) sc_law_drawn_row.nd rfl (Or.inl rfl) (pe_callB (call_min2 rfl) rfl B.min bt_min (pa_cons pe_int (pa_cons (pe_op op_add (pv 4) (C8.pe_c c_law_take hr (by decide) rfl (pa_cons (pv 0) (pa_cons (pe_ix ix_list (pe_lst (pa_cons pe_int (pa_cons (pv 2) (pa_cons (pe_op op_mulW pe_int (pv 2)) pa_nil)))) (C8.pe_c c_law_take hr (by decide) rfl (pa_cons (pv 0) (pa_cons pe_int pa_nil))) (fun _ _ => rfl)) pa_nil)))) pa_nil))))
    (pss_cons (ps_set (i := 6) sc_law_drawn_row.nd rfl (Or.inl rfl) (pe_op op_add pe_int (C8.pe_c c_law_take hr (by decide) rfl (pa_cons (pv 0) (pa_cons (pv 3) pa_nil)))))
    (pss_cons (ps_set (i := 7) sc_law_drawn_row.nd rfl (Or.inl rfl) (pe_ix ix_list (pe_lst (pa_cons (pv 6) (pa_cons (pv 6) (pa_cons (pv 6) (pa_cons (C8.pe_c c_law_take hr (by decide) rfl (pa_cons (pv 0) (pa_cons (pe_op op_add (pv 6) pe_int) pa_nil))) pa_nil))))) (C8.pe_c c_law_take hr (by decide) rfl (pa_cons (pv 0) (pa_cons pe_int pa_nil))) (fun _ _ => rfl)))
    (pss_one (ps_ret (pe_tup (pa_cons (pv 1) (pa_cons (pv 4) (pa_cons (pv 5) (pa_cons (pv 6) (pa_cons (pv 7) pa_nil))))))))))))
theorem wk_law_promised {p : Pm} {mg : Str → Option Value} {base : Heap} {A : Around} {outer : List Env} {s : Shared} {H : Hp} {E : XK} {f : Addr} {cdv : Value} (c_law_take : C8.Cal p.P p.w p.K mg base 1 "_law_take" (sp_law_take p) []) (c_law_drawn_row : C8.Cal p.P p.w p.K mg base 2 "_law_drawn_row" (sp_law_drawn_row p) []) (c_law_short : C8.Cal p.P p.w p.K mg base 2 "_law_short" (sp_law_short p) []) (hr : Room 2 (A.deeper (envOfC "_law_promised" (defScope s_law_promised) s.heap.objs.size f cdv))) :
    PSs (cxOf C8.CX0 p.P p.w p.K mg base ["_law_box_here", "_law_names_here", "_law_failings", "_law_turns", "_law_long", "_law_rows", "_law_refused", "_law_name", "_law_row"] "_law_promised" (defScope s_law_promised) f cdv A outer s H E).nox (defBody s_law_promised) (t_law_promised p) :=
  (pss_cons (ps_set (i := 3) sc_law_promised.nd rfl (Or.inl rfl) (pe_ix ix_list (pe_lst (pa_cons pe_int (pa_cons pe_int (pa_cons pe_int (pa_cons pe_int pa_nil))))) (C8.pe_c c_law_take hr (by decide) rfl (pa_cons (pv 0) (pa_cons pe_int pa_nil))) (fun _ _ => rfl)))
    (pss_cons (ps_set (i := 4) sc_law_promised.nd rfl (Or.inl rfl) (pe_ix ix_list (pe_lst (pa_cons pe_int (pa_cons pe_int (pa_cons pe_int pa_nil)))) (C8.pe_c c_law_take hr (by decide) rfl (pa_cons (pv 0) (pa_cons pe_int pa_nil))) (fun _ _ => rfl)))
    (pss_cons (ps_set (i := 5) sc_law_promised.nd rfl (Or.inl rfl) (pe_lst pa_nil))
    (pss_cons (ps_set (i := 6) sc_law_promised.nd rfl (Or.inl rfl) (pe_lst pa_nil))
    (pss_cons (ps_for PassesOwn.never rfl (pi_list (pv 1)) (pg_name (i := 7) sc_law_promised.nd rfl (Or.inl rfl)) (pss_cons (ps_set (i := 8) sc_law_promised.nd rfl (Or.inl rfl) (C8.pe_c c_law_drawn_row hr (by decide) rfl (pa_cons (pv 0) (pa_cons (pv 7) (pa_cons (pv 3) (pa_cons (pv 4) pa_nil))))))
    (pss_one (ps_if (pt_cmpR (op_eqD hr.units) (C8.pe_c c_law_short hr (by decide) rfl (pa_cons (pe_op op_cat (pv 5) (pe_lst (pa_cons (pv 8) pa_nil))) (pa_cons (pv 2) pa_nil))) (pe_lst pa_nil) (nomark _)) (pss_one (ps_expr (pe_bm PySem.F.plainAttrs_list PySem.F.slot_list_append PySem.F.type_list_append mt_append (pv 5) (pa_cons (pv 8) pa_nil)))) (pss_one (ps_expr (pe_bm PySem.F.plainAttrs_list PySem.F.slot_list_append PySem.F.type_list_append mt_append (pv 6) (pa_cons (pv 8) pa_nil))))))))
    (pss_one (ps_ret (pe_lst (pa_cons (pv 5) (pa_cons (pv 6) pa_nil))))))))))
theorem wk_law_order_right {p : Pm} {mg : Str → Option Value} {base : Heap} {A : Around} {outer : List Env} {s : Shared} {H : Hp} {E : XK} {f : Addr} {cdv : Value} (B : Blt mg) (hr : Room 0 (A.deeper (envOfC "_law_order_right" (defScope s_law_order_right) s.heap.objs.size f cdv))) :
    PSs (cxOf C8.CX0 p.P p.w p.K mg base ["_law_rows", "_law_order", "_law_turns", "_law_one", "_law_name", "_law_first", "_law_last", "_law_length", "_law_left", "_law_mine", "_law_turn", "_law_other", "_law_row"] "_law_order_right" (defScope s_law_order_right) f cdv A outer s H E).nox (defBody s_law_order_right) (t_law_order_right p) :=
  (pss_cons (ps_setLc (i := 2) (own := [("_law_one", 3)]) (g := (gName 3)) (tt := tYes) rfl sc_law_order_right.nd rfl rfl (sw_true rfl rfl rfl (by decide +kernel)) (pi_list (pv 1)) (blkOk_by (N := ["_law_rows", "_law_order", "_law_turns", "_law_one", "_law_name", "_law_first", "_law_last", "_law_length", "_law_left", "_law_mine", "_law_turn", "_law_other", "_law_row"]) (sc := defScope s_law_order_right) (by decide +kernel)) (fun _ _ _ _ _ => (pg_name (i := 3) sc_law_order_right.nd rfl (Or.inl rfl))) (fun _ _ _ _ _ => pts_nil) (fun _ _ _ _ _ => (pe_ix ix_tup (pv 3) pe_int (fun _ _ => rfl))))
    (pss_cons (ps_if (pt_cmpR (op_neD hr.units) (pv 2) (pe_callB (cr_sortedSetB rfl) rfl B.sorted bt_sorted (pa_cons (pe_callTy (cr_setL rfl) rfl B.set bt_set (pa_cons (pv 2) pa_nil)) pa_nil)) (nomark _)) (pss_one (ps_ret pe_bl)) pss_nil)
    (pss_cons (ps_for PassesOwn.never rfl (pi_list (pv 0)) (pg_tup rfl (pgs_cons (pg_name (i := 4) sc_law_order_right.nd rfl (Or.inr rfl)) (pgs_cons (pg_name (i := 5) sc_law_order_right.nd rfl (Or.inr rfl)) (pgs_cons (pg_name (i := 6) sc_law_order_right.nd rfl (Or.inr rfl)) (pgs_cons (pg_name (i := 7) sc_law_order_right.nd rfl (Or.inl rfl)) (pgs_cons (pg_name (i := 8) sc_law_order_right.nd rfl (Or.inl rfl)) pgs_nil)))))) (pss_cons (ps_setLc (i := 9) (own := [("_law_turn", 10), ("_law_other", 11)]) (g := (gTup p.K 2 (gCons (gName 10) (gCons (gName 11) gNil)))) (tt := (tTest (tOp rEq (tVar 11) (tVar 4)))) rfl sc_law_order_right.nd rfl rfl (sw_true rfl rfl rfl (by decide +kernel)) (pi_list (pv 1)) (blkOk_by (N := ["_law_rows", "_law_order", "_law_turns", "_law_one", "_law_name", "_law_first", "_law_last", "_law_length", "_law_left", "_law_mine", "_law_turn", "_law_other", "_law_row"]) (sc := defScope s_law_order_right) (by decide +kernel)) (fun _ _ _ _ _ => (pg_tup rfl (pgs_cons (pg_name (i := 10) sc_law_order_right.nd rfl (Or.inl rfl)) (pgs_cons (pg_name (i := 11) sc_law_order_right.nd rfl (Or.inl rfl)) pgs_nil)))) (fun _ _ _ _ _ => (pts_one (pt_cmpR op_eq (pv 11) (pv 4) (nomark _)))) (fun _ _ _ _ _ => (pv 10)))
    (pss_one (ps_if (PW.pt (pw_or (pt_cmpR op_ne (pe_callB call_len_seq rfl B.len bt_len (pa_cons (pv 9) pa_nil)) (pv 8) (nomark _)) (pw_or1 (pt_cmpR (op_neD hr.units) (pe_lc (own := [("_law_turn", 10)]) (g := (gName 10)) (tt := (tNot (tTest (tChain rLeI rLeI (tVar 5) (tVar 10) (tVar 6))))) rfl sc_law_order_right.nd (pi_list (pv 9)) (blkOk_by (N := ["_law_rows", "_law_order", "_law_turns", "_law_one", "_law_name", "_law_first", "_law_last", "_law_length", "_law_left", "_law_mine", "_law_turn", "_law_other", "_law_row"]) (sc := defScope s_law_order_right) (by decide +kernel)) (fun _ _ _ _ _ => (pg_name (i := 10) sc_law_order_right.nd rfl (Or.inl rfl))) (fun _ _ _ _ _ => (pts_one (pt_not (pt_chain op_le op_le (pv 5) (pv 10) (pv 6))))) (fun _ _ _ _ _ => (pv 10))) (pe_lst pa_nil) (nomark _))))) (pss_one (ps_ret pe_bl)) pss_nil))))
    (pss_one (ps_ret (pe_cmpR op_eq (pe_callB call_len_seq rfl B.len bt_len (pa_cons (pv 1) pa_nil)) (pe_callB (cr_sum rfl) rfl B.sum bt_sum (pa_cons (pe_lc (own := [("_law_row", 12)]) (g := (gName 12)) (tt := tYes) rfl sc_law_order_right.nd (pi_list (pv 0)) (blkOk_by (N := ["_law_rows", "_law_order", "_law_turns", "_law_one", "_law_name", "_law_first", "_law_last", "_law_length", "_law_left", "_law_mine", "_law_turn", "_law_other", "_law_row"]) (sc := defScope s_law_order_right) (by decide +kernel)) (fun _ _ _ _ _ => (pg_name (i := 12) sc_law_order_right.nd rfl (Or.inl rfl))) (fun _ _ _ _ _ => pts_nil) (fun _ _ _ _ _ => (pe_ix ix_tup (pv 12) pe_int (fun _ _ => rfl)))) pa_nil)) (nomark _)))))))
theorem wk_law_numbers {p : Pm} {mg : Str → Option Value} {base : Heap} {A : Around} {outer : List Env} {s : Shared} {H : Hp} {E : XK} {f : Addr} {cdv : Value} (B : Blt mg) (c_law_short : C8.Cal p.P p.w p.K mg base 2 "_law_short" (sp_law_short p) []) (hr : Room 2 (A.deeper (envOfC "_law_numbers" (defScope s_law_numbers) s.heap.objs.size f cdv))) :
    PSs (cxOf C8.CX0 p.P p.w p.K mg base ["_law_rows", "_law_failings", "_law_row", "_law_place", "_law_step", "_law_most", "_law_found", "_law_turns", "_law_other"] "_law_numbers" (defScope s_law_numbers) f cdv A outer s H E).nox (defBody s_law_numbers) (t_law_numbers p) :=
  (pss_cons (ps_set (i := 6) sc_law_numbers.nd rfl (Or.inl rfl) (pe_lst pa_nil))
    (pss_cons (ps_for PassesOwn.never rfl (pi_range2 rfl B.range (pa_cons pe_int (pa_cons (pe_op op_add (pv 5) pe_int) pa_nil))) (pg_name (i := 7) sc_law_numbers.nd rfl (Or.inl rfl)) (pss_cons (ps_set (i := 8) sc_law_numbers.nd rfl (Or.inl rfl) (pe_op op_catA (pe_op op_catA (pe_slice sl_tupA (pv 2) po_none (po_some (pv 3))) (pe_tup (pa_cons (pe_op op_add (pe_ix ix_tup (pv 2) (pv 3) (fun _ _ => rfl)) (pe_op op_mulW (pv 4) (pv 7))) pa_nil))) (pe_slice sl_tupA (pv 2) (po_some (pe_op op_add (pv 3) pe_int)) po_none)))
    (pss_one (ps_if (pt_cmpR (op_eqD hr.units) (C8.pe_c c_law_short hr (by decide) rfl (pa_cons (pe_op op_cat (pv 0) (pe_lst (pa_cons (pv 8) pa_nil))) (pa_cons (pv 1) pa_nil))) (pe_lst pa_nil) (nomark _)) (pss_one (ps_expr (pe_bm PySem.F.plainAttrs_list PySem.F.slot_list_append PySem.F.type_list_append mt_append (pv 6) (pa_cons (pv 7) pa_nil)))) pss_nil))))
    (pss_one (ps_ret (pv 6)))))
theorem wk_law_turns_right {p : Pm} {mg : Str → Option Value} {base : Heap} {A : Around} {outer : List Env} {s : Shared} {H : Hp} {E : XK} {f : Addr} {cdv : Value} (B : Blt mg) (hr : Room 0 (A.deeper (envOfC "_law_turns_right" (defScope s_law_turns_right) s.heap.objs.size f cdv))) :
    PSs (cxOf C8.CX0 p.P p.w p.K mg base ["_law_told", "_law_found", "_law_most"] "_law_turns_right" (defScope s_law_turns_right) f cdv A outer s H E).nox (defBody s_law_turns_right) (t_law_turns_right p) :=
  (pss_cons (ps_if (pt_cmpR (op_eqD hr.units) (pv 1) (pe_lst pa_nil) (nomark _)) (pss_one (ps_ret (pe_cmpR op_isN (pv 0) pe_non (nomark _)))) pss_nil)
    (pss_one (ps_ret (pe_and (pe_cmpR op_notN (pv 0) pe_non (nomark _)) (pe_and (pe_cmpR op_eq (pe_ix ix_tup (pv 0) pe_int (fun _ _ => rfl)) (pe_ix ix_list (pv 1) pe_int (fun _ _ => rfl)) (nomark _)) (pe_one (pe_cmpR (op_eqD hr.units) (pv 1) (pe_listRg rfl rfl B.list (prg_2 rfl B.range (pe_ix ix_list (pv 1) pe_int (fun _ _ => rfl)) (pe_op op_add (pv 2) pe_int))) (nomark _))))))))
theorem wk_law_borne {p : Pm} {mg : Str → Option Value} {base : Heap} {A : Around} {outer : List Env} {s : Shared} {H : Hp} {E : XK} {f : Addr} {cdv : Value} (c_law_short : C8.Cal p.P p.w p.K mg base 2 "_law_short" (sp_law_short p) []) (hr : Room 2 (A.deeper (envOfC "_law_borne" (defScope s_law_borne) s.heap.objs.size f cdv))) :
    PSs (cxOf C8.CX0 p.P p.w p.K mg base ["_law_rows", "_law_found"] "_law_borne" (defScope s_law_borne) f cdv A outer s H E).nox (defBody s_law_borne) (t_law_borne p) :=
  (pss_cons (ps_set (i := 1) sc_law_borne.nd rfl (Or.inl rfl) (pe_op op_sub pe_int pe_int))
    (pss_cons (ps_while PassesOwn.never (PW.pt (pw_and (pt_cmpR (op_eqD hr.units) (C8.pe_c c_law_short hr (by decide) rfl (pa_cons (pv 0) (pa_cons (pe_op op_add (pv 1) pe_int) pa_nil))) (pe_lst pa_nil) (nomark _)) (pw_and1 (pt_cmpR op_lt (pv 1) pe_int (nomark _))))) (pss_one (ps_set (i := 1) sc_law_borne.nd rfl (Or.inl rfl) (pe_op op_add (pv 1) pe_int))))
    (pss_one (ps_ret (pv 1)))))
end Fs

set_option Elab.async false
set_option linter.all false
set_option maxRecDepth 100000
set_option maxHeartbeats 4000000
/-! the walks (printed by gen_walk.py) -/
namespace Fs
open PySem PySem.Spec PyProof.Rows L2 Evl
theorem wk_Run_end_try {p : Pm} {mg : Str → Option Value} {base : Heap} {A : Around} {outer : List Env} {s : Shared} {H : Hp} {E : XK} {f : Addr} {cdv : Value} (l_fails : ∀ cl c, LOk p.P p.w p.K mg base 1 (p.B.L.F cl c) p.B.b p.B.ps p.B.fr p.B.sp) (hr : Room 1 (A.deeper (envOfC "Run.end_try" (defScope s_Run_end_try) s.heap.objs.size f cdv))) :
    PSs (cxOf C8.CX0 p.P p.w p.K mg base ["self", "name", "length", "turn", "fails", "number"] "Run.end_try" (defScope s_Run_end_try) f cdv A outer s H E).nox (defBody s_Run_end_try) (t_Run_end_try p) :=
  (pss_cons (ps_set (i := 5) sc_Run_end_try.nd rfl (Or.inl rfl) (pe_dget (hu_of hr) (pe_fld (pv 0) rfl) (pv 1) (fun _ _ => rfl)))
    (pss_cons (ps_dput (hu_of hr) (pe_fld (pv 0) rfl) (pv 1) (pe_op op_add (pv 5) pe_int) rfl)
    (pss_one (ps_if (pt_val (pe_lamv l_fails hr (by decide) rfl (by first | exact Or.inl rfl | exact Or.inr (Or.inl rfl) | exact Or.inr (Or.inr rfl)) (pa_cons (pv 1) (pa_cons (pv 5) pa_nil)))) pss_never (pss_cons (ps_expr (pe_bm PySem.F.plainAttrs_list PySem.F.slot_list_append PySem.F.type_list_append mt_append (pe_fld (pv 0) rfl) (pa_cons (pe_tup (pa_cons (pv 1) (pa_cons (pv 5) (pa_cons (pv 3) (pa_cons pe_str pa_nil))))) pa_nil)))
    (pss_one (ps_dput (hu_of hr) (pe_fld (pv 0) rfl) (pv 1) (pv 3) rfl)))))))
theorem wk_Run_end_empty {p : Pm} {mg : Str → Option Value} {base : Heap} {A : Around} {outer : List Env} {s : Shared} {H : Hp} {E : XK} {f : Addr} {cdv : Value} (m_Pieces_told : C8.Met p.P p.w p.K mg base 1 p.CP "told" (sp_Pieces_told p) []) (m_Run_end_try : C8.Met p.P p.w p.K mg base 2 p.CR "end_try" (sp_Run_end_try p) []) (hr : Room 2 (A.deeper (envOfC "Run.end_empty" (defScope s_Run_end_empty) s.heap.objs.size f cdv))) :
    PSs (cxOf C8.CX0 p.P p.w p.K mg base ["self", "turn", "fails", "name", "first", "last", "length", "left"] "Run.end_empty" (defScope s_Run_end_empty) f cdv A outer s H E).nox (defBody s_Run_end_empty) (t_Run_end_empty p) :=
  (pss_one (ps_for PassesOwn.never rfl (pi_tup (C8.pe_mt0 m_Pieces_told hr (by decide) (pe_fld (pv 0) rfl))) (pg_tup rfl (pgs_cons (pg_name (i := 3) sc_Run_end_empty.nd rfl (Or.inl rfl)) (pgs_cons (pg_name (i := 4) sc_Run_end_empty.nd rfl (Or.inl rfl)) (pgs_cons (pg_name (i := 5) sc_Run_end_empty.nd rfl (Or.inl rfl)) (pgs_cons (pg_name (i := 6) sc_Run_end_empty.nd rfl (Or.inl rfl)) (pgs_cons (pg_name (i := 7) sc_Run_end_empty.nd rfl (Or.inl rfl)) pgs_nil)))))) (pss_one (ps_if (PW.pt (pw_and (pt_cmpR op_eq (pv 4) (pv 1) (nomark _)) (pw_and1 (pt_cmpR op_eq (pv 7) pe_int (nomark _))))) (pss_one (ps_expr (C8.pe_mt m_Run_end_try hr (by decide) (pv 0) (pa_cons (pv 3) (pa_cons (pv 6) (pa_cons (pe_op op_sub (pv 1) pe_int) (pa_cons (pv 2) pa_nil))))))) pss_nil))))
theorem wk_Run_work_on {p : Pm} {mg : Str → Option Value} {base : Heap} {A : Around} {outer : List Env} {s : Shared} {H : Hp} {E : XK} {f : Addr} {cdv : Value} (m_Pieces_told : C8.Met p.P p.w p.K mg base 1 p.CP "told" (sp_Pieces_told p) []) (m_Run_rests : C8.Met p.P p.w p.K mg base 1 p.CR "rests" (sp_Run_rests p) []) (m_Run_end_try : C8.Met p.P p.w p.K mg base 2 p.CR "end_try" (sp_Run_end_try p) []) (hr : Room 2 (A.deeper (envOfC "Run.work_on" (defScope s_Run_work_on) s.heap.objs.size f cdv))) :
    PSs (cxOf C8.CX0 p.P p.w p.K mg base ["self", "turn", "fails", "best", "rows", "row", "name"] "Run.work_on" (defScope s_Run_work_on) f cdv A outer s H E).nox (defBody s_Run_work_on) (t_Run_work_on p) :=
  (pss_cons (ps_set (i := 3) sc_Run_work_on.nd rfl (Or.inl rfl) pe_non)
    (pss_cons (ps_set (i := 4) sc_Run_work_on.nd rfl (Or.inl rfl) (C8.pe_mt0 m_Pieces_told hr (by decide) (pe_fld (pv 0) rfl)))
    (pss_cons (ps_if (pt_val (C8.pe_mt m_Run_rests hr (by decide) (pv 0) (pa_cons (pv 1) pa_nil))) pss_never pss_nil)
    (pss_cons (ps_for PassesOwn.never rfl (pi_tup (pv 4)) (pg_name (i := 5) sc_Run_work_on.nd rfl (Or.inl rfl)) (pss_one (ps_if (PW.pt (pw_and (pt_cmpR op_le (pe_ix ix_tup (pv 5) pe_int (fun _ _ => rfl)) (pv 1) (nomark _)) (pw_and (pt_cmp (pc_dnotin (hu_of hr) (pe_ix ix_tup (pv 5) pe_int (fun _ _ => rfl)) (pe_fld (pv 0) rfl))) (pw_and1 (PW.pt (pw_or (pt_cmpR op_isN (pv 3) pe_non (nomark _)) (pw_or1 (pt_cmpR op_lt (pe_ix ix_tup (pv 5) pe_int (fun _ _ => rfl)) (pe_ix ix_tup (pv 3) pe_int (fun _ _ => rfl)) (nomark _))))))))) (pss_one (ps_set (i := 3) sc_Run_work_on.nd rfl (Or.inl rfl) (pv 5))) pss_nil)))
    (pss_one (ps_if (pt_cmpR op_notN (pv 3) pe_non (nomark _)) (pss_cons (ps_set (i := 6) sc_Run_work_on.nd rfl (Or.inl rfl) (pe_ix ix_tup (pv 3) pe_int (fun _ _ => rfl)))
    (pss_cons (ps_expr (pe_bm PySem.F.plainAttrs_list PySem.F.slot_list_append PySem.F.type_list_append mt_append (pe_fld (pv 0) rfl) (pa_cons (pe_tup (pa_cons (pv 1) (pa_cons (pv 6) pa_nil))) pa_nil)))
    (pss_cons (ps_daug (hu_of hr) (pe_fld (pv 0) rfl) (pv 6) pe_int in_sub (fun _ _ _ => rfl))
    (pss_one (ps_if (pt_cmpR op_eq (pe_dget (hu_of hr) (pe_fld (pv 0) rfl) (pv 6) (fun _ _ => rfl)) pe_int (nomark _)) (pss_one (ps_expr (C8.pe_mt m_Run_end_try hr (by decide) (pv 0) (pa_cons (pv 6) (pa_cons (pe_ix ix_tup (pv 3) pe_int (fun _ _ => rfl)) (pa_cons (pv 1) (pa_cons (pv 2) pa_nil))))))) pss_nil))))) pss_nil))))))
theorem wk_Run_init {p : Pm} {mg : Str → Option Value} {base : Heap} {A : Around} {outer : List Env} {s : Shared} {H : Hp} {E : XK} {f : Addr} {cdv : Value} (B : Blt mg) (m_Pieces_told : C8.Met p.P p.w p.K mg base 1 p.CP "told" (sp_Pieces_told p) []) (m_Run_end_empty : C8.Met p.P p.w p.K mg base 3 p.CR "end_empty" (sp_Run_end_empty p) []) (m_Run_work_on : C8.Met p.P p.w p.K mg base 3 p.CR "work_on" (sp_Run_work_on p) []) (hr : Room 3 (A.deeper (envOfC "Run.__init__" (defScope s_Run_init) s.heap.objs.size f cdv))) :
    PSs (cxOf C8.CX0 p.P p.w p.K mg base ["self", "pieces", "fails", "name", "first", "last", "length", "left", "turn"] "Run.__init__" (defScope s_Run_init) f cdv A outer s H E).nox (defBody s_Run_init) (t_Run_init p) :=
  (pss_cons (ps_fld (pv 0) (pv 1) rfl)
    (pss_cons (ps_fld (pv 0) pe_dnewK rfl)
    (pss_cons (ps_fld (pv 0) pe_dnewK rfl)
    (pss_cons (ps_for PassesOwn.never rfl (pi_tup (C8.pe_mt0 m_Pieces_told hr (by decide) (pv 1))) (pg_tup rfl (pgs_cons (pg_name (i := 3) sc_Run_init.nd rfl (Or.inl rfl)) (pgs_cons (pg_name (i := 4) sc_Run_init.nd rfl (Or.inl rfl)) (pgs_cons (pg_name (i := 5) sc_Run_init.nd rfl (Or.inl rfl)) (pgs_cons (pg_name (i := 6) sc_Run_init.nd rfl (Or.inl rfl)) (pgs_cons (pg_name (i := 7) sc_Run_init.nd rfl (Or.inl rfl)) pgs_nil)))))) (pss_cons (ps_dput (hu_of hr) (pe_fld (pv 0) rfl) (pv 3) (pv 7) rfl)
    (pss_one (ps_dput (hu_of hr) (pe_fld (pv 0) rfl) (pv 3) pe_int rfl))))
    (pss_cons (ps_fld (pv 0) (pe_lst pa_nil) rfl)
    (pss_cons (ps_fld (pv 0) (pe_lst pa_nil) rfl)
    (pss_cons (ps_fld (pv 0) pe_dnewK rfl)
    (pss_cons (ps_fld (pv 0) pe_dnewK rfl)
    (pss_cons (ps_set (i := 8) sc_Run_init.nd rfl (Or.inl rfl) pe_int)
    (pss_one (ps_while PassesOwn.never (pt_cmpR op_lt (pe_callB call_lenD rfl B.len bt_len (pa_cons (pe_fld (pv 0) rfl) pa_nil)) (pe_callB call_lenD rfl B.len bt_len (pa_cons (pe_fld (pv 0) rfl) pa_nil)) (nomark _)) (pss_cons (ps_expr (C8.pe_mt m_Run_end_empty hr (by decide) (pv 0) (pa_cons (pv 8) (pa_cons (pv 2) pa_nil))))
    (pss_cons (ps_expr (C8.pe_mt m_Run_work_on hr (by decide) (pv 0) (pa_cons (pv 8) (pa_cons (pv 2) pa_nil))))
    (pss_one (ps_aug (i := 8) sc_Run_init.nd rfl (Or.inl rfl) pe_int ip_add)))))))))))))))
theorem wk_run {p : Pm} {mg : Str → Option Value} {base : Heap} {A : Around} {outer : List Env} {s : Shared} {H : Hp} {E : XK} {f : Addr} {cdv : Value} (B : Blt mg) (c_need_counts : C8.Cal p.P p.w p.K mg base 4 "need_counts" (sp_need_counts p) []) (k_Run : C8.Mak p.P p.w p.K mg base 4 "Run" p.CR (sp_Run_init p) []) (c_by_counts : C8.Cal p.P p.w p.K mg base 1 "by_counts" (sp_by_counts p) []) (hr : Room 5 (A.deeper (envOfC "run" (defScope s_run) s.heap.objs.size f cdv))) :
    PSs (cxOf C8.CX0 p.P p.w p.K mg base ["pieces", "counts"] "run" (defScope s_run) f cdv A outer s H E).nox (defBody s_run) (t_run p) :=
  (pss_cons (ps_expr (C8.pe_c c_need_counts hr (by decide) rfl (pa_cons (pv 0) (pa_cons (pv 1) pa_nil))))
    (pss_one (ps_ret (C8.pe_mk k_Run hr (by decide) rfl (pa_cons (pv 0) (pa_cons (C8.pe_c c_by_counts hr (by decide) rfl (pa_cons (pe_callTy call_dictD rfl B.dict bt_dict (pa_cons (pv 1) pa_nil)) pa_nil)) pa_nil))))))
theorem wk_Kept_order {p : Pm} {mg : Str → Option Value} {base : Heap} {A : Around} {outer : List Env} {s : Shared} {H : Hp} {E : XK} {f : Addr} {cdv : Value} (B : Blt mg) (c_run : C8.Cal p.P p.w p.K mg base 6 "run" (sp_run p) []) (m_Run_rows : C8.Met p.P p.w p.K mg base 1 p.CR "rows" (sp_Run_rows p) []) (hr : Room 6 (A.deeper (envOfC "Kept.order" (defScope s_Kept_order) s.heap.objs.size f cdv))) :
    PSs (cxOf C8.CX0 p.P p.w p.K mg base ["self", "counts", "found"] "Kept.order" (defScope s_Kept_order) f cdv A outer s H E).nox (defBody s_Kept_order) (t_Kept_order p) :=
  (pss_cons (ps_set (i := 2) sc_Kept_order.nd rfl (Or.inl rfl) (C8.pe_c c_run hr (by decide) rfl (pa_cons (pe_fld (pv 0) rfl) (pa_cons (pv 1) pa_nil))))
    (pss_cons (ps_if (pt_cmpR op_gt (pe_callB (cr_sumV0 rfl) rfl B.sum bt_sum (pa_cons (pe_vals (pv 1)) pa_nil)) (pe_fld (pv 0) rfl) (nomark _)) pss_never pss_nil)
    (pss_one (ps_ret (C8.pe_mt0 m_Run_rows hr (by decide) (pv 2))))))
theorem wk_law_instead_right {p : Pm} {mg : Str → Option Value} {base : Heap} {A : Around} {outer : List Env} {s : Shared} {H : Hp} {E : XK} {f : Addr} {cdv : Value} (B : Blt mg) (c_law_short : C8.Cal p.P p.w p.K mg base 2 "_law_short" (sp_law_short p) []) (c_instead_of : C8.Cal p.P p.w p.K mg base 12 "instead_of" (sp_instead_of p) []) (m_Kept_word : C8.Met p.P p.w p.K mg base 1 p.CK "word" (sp_Kept_word p) []) (m_Kept_holds : C8.Met p.P p.w p.K mg base 11 p.CK "holds" (sp_Kept_holds p) []) (m_Paper_failings : C8.Met p.P p.w p.K mg base 1 p.CK "failings" (sp_Paper_failings p) []) (c_law_order_right : C8.Cal p.P p.w p.K mg base 1 "_law_order_right" (sp_law_order_right p) []) (m_Kept_order : C8.Met p.P p.w p.K mg base 7 p.CK "order" (sp_Kept_order p) []) (hr : Room 12 (A.deeper (envOfC "_law_instead_right" (defScope s_law_instead_right) s.heap.objs.size f cdv))) :
    PSs (cxOf C8.CX0 p.P p.w p.K mg base ["_law_pieces", "_law_rows", "_law_failings", "_law_row", "_law_due", "_law_one", "_law_left", "_law_other", "_law_told", "_law_name", "_law_paper"] "_law_instead_right" (defScope s_law_instead_right) f cdv A outer s H E).nox (defBody s_law_instead_right) (t_law_instead_right p) :=
  (pss_cons (ps_set (i := 4) sc_law_instead_right.nd rfl (Or.inl rfl) (pe_lst pa_nil))
    (pss_cons (ps_for PassesOwn.never rfl (pi_list (pv 1)) (pg_name (i := 5) sc_law_instead_right.nd rfl (Or.inr rfl)) (pss_cons (ps_set (i := 6) sc_law_instead_right.nd rfl (Or.inl rfl) (pe_op op_cat (pe_lc (own := [("_law_other", 7)]) (g := (gName 7)) (tt := (tTest (tOp (rNeD p.K) (tVar 7) (tVar 5)))) rfl sc_law_instead_right.nd (pi_list (pv 1)) (blkOk_by (N := ["_law_pieces", "_law_rows", "_law_failings", "_law_row", "_law_due", "_law_one", "_law_left", "_law_other", "_law_told", "_law_name", "_law_paper"]) (sc := defScope s_law_instead_right) (by decide +kernel)) (fun _ _ _ _ _ => (pg_name (i := 7) sc_law_instead_right.nd rfl (Or.inl rfl))) (fun _ _ _ _ _ => (pts_one (pt_cmpR (op_neD hr.units) (pv 7) (pv 5) (nomark _)))) (fun _ _ _ _ _ => (pv 7))) (pe_lst (pa_cons (pv 3) pa_nil))))
    (pss_one (ps_if (pt_cmpR (op_eqD hr.units) (C8.pe_c c_law_short hr (by decide) rfl (pa_cons (pv 6) (pa_cons (pv 2) pa_nil))) (pe_lst pa_nil) (nomark _)) (pss_one (ps_expr (pe_bm PySem.F.plainAttrs_list PySem.F.slot_list_append PySem.F.type_list_append mt_append (pv 4) (pa_cons (pe_ix ix_tup (pv 5) pe_int (fun _ _ => rfl)) pa_nil)))) pss_nil))))
    (pss_cons (ps_set (i := 8) sc_law_instead_right.nd rfl (Or.inl rfl) (C8.pe_c c_instead_of hr (by decide) rfl (pa_cons (pv 0) (pa_cons (pv 2) (pa_cons (pv 3) pa_nil)))))
    (pss_cons (ps_if (PW.pt (pw_or (pt_not (pt_val (pe_callB call_isi rfl B.isinstance bt_isinstance (pa_cons (pv 8) (pa_cons (pe_bltn rfl B.list bt_list rfl) pa_nil))))) (pw_or1 (pt_cmpR (op_neD hr.units) (pe_lc (own := [("_law_one", 5)]) (g := (gName 5)) (tt := tYes) rfl sc_law_instead_right.nd (pi_list (pv 8)) (blkOk_by (N := ["_law_pieces", "_law_rows", "_law_failings", "_law_row", "_law_due", "_law_one", "_law_left", "_law_other", "_law_told", "_law_name", "_law_paper"]) (sc := defScope s_law_instead_right) (by decide +kernel)) (fun _ _ _ _ _ => (pg_name (i := 5) sc_law_instead_right.nd rfl (Or.inl rfl))) (fun _ _ _ _ _ => pts_nil) (fun _ _ _ _ _ => (pe_ix ix_tup (pv 5) pe_int (fun _ _ => rfl)))) (pv 4) (nomark _))))) (pss_one (ps_ret pe_bl)) pss_nil)
    (pss_cons (ps_for PassesOwn.never rfl (pi_list (pv 8)) (pg_tup rfl (pgs_cons (pg_name (i := 9) sc_law_instead_right.nd rfl (Or.inr rfl)) (pgs_cons (pg_name (i := 10) sc_law_instead_right.nd rfl (Or.inl rfl)) pgs_nil))) (pss_cons (ps_if (PW.pt (pw_or (pt_cmpR op_ne (C8.pe_mt0 m_Kept_word hr (by decide) (pv 10)) pe_str (nomark _)) (pw_or (pt_cmpR op_notBl (C8.pe_mt0 m_Kept_holds hr (by decide) (pv 10)) pe_bl (nomark _)) (pw_or1 (pt_cmpR op_ne (C8.pe_mt0 m_Paper_failings hr (by decide) (pv 10)) (pv 2) (nomark _)))))) (pss_one (ps_ret pe_bl)) pss_nil)
    (pss_cons (ps_set (i := 6) sc_law_instead_right.nd rfl (Or.inl rfl) (pe_op op_cat (pe_lc (own := [("_law_other", 7)]) (g := (gName 7)) (tt := (tTest (tOp rNe (tOp (rIxT p.K) (tVar 7) (tC (.int 0))) (tVar 9)))) rfl sc_law_instead_right.nd (pi_list (pv 1)) (blkOk_by (N := ["_law_pieces", "_law_rows", "_law_failings", "_law_row", "_law_due", "_law_one", "_law_left", "_law_other", "_law_told", "_law_name", "_law_paper"]) (sc := defScope s_law_instead_right) (by decide +kernel)) (fun _ _ _ _ _ => (pg_name (i := 7) sc_law_instead_right.nd rfl (Or.inl rfl))) (fun _ _ _ _ _ => (pts_one (pt_cmpR op_ne (pe_ix ix_tup (pv 7) pe_int (fun _ _ => rfl)) (pv 9) (nomark _)))) (fun _ _ _ _ _ => (pv 7))) (pe_lst (pa_cons (pv 3) pa_nil))))
    (pss_one (ps_if (pt_not (pt_val (C8.pe_c c_law_order_right hr (by decide) rfl (pa_cons (pv 6) (pa_cons (C8.pe_mt m_Kept_order hr (by decide) (pv 10) (pa_cons pe_dnewK pa_nil)) pa_nil))))) (pss_one (ps_ret pe_bl)) pss_nil)))))
    (pss_cons (ps_expr (pe_bm PySem.F.plainAttrs_list PySem.F.slot_list_append PySem.F.type_list_append mt_append (pv 8) (pa_cons (pe_tup (pa_cons pe_str (pa_cons pe_non pa_nil))) pa_nil)))
    (pss_one (ps_ret (pe_cmpR (op_eqD hr.units) (pe_lc (own := [("_law_one", 5)]) (g := (gName 5)) (tt := tYes) rfl sc_law_instead_right.nd (pi_list (C8.pe_c c_instead_of hr (by decide) rfl (pa_cons (pv 0) (pa_cons (pv 2) (pa_cons (pv 3) pa_nil))))) (blkOk_by (N := ["_law_pieces", "_law_rows", "_law_failings", "_law_row", "_law_due", "_law_one", "_law_left", "_law_other", "_law_told", "_law_name", "_law_paper"]) (sc := defScope s_law_instead_right) (by decide +kernel)) (fun _ _ _ _ _ => (pg_name (i := 5) sc_law_instead_right.nd rfl (Or.inl rfl))) (fun _ _ _ _ _ => pts_nil) (fun _ _ _ _ _ => (pe_ix ix_tup (pv 5) pe_int (fun _ _ => rfl)))) (pv 4) (nomark _))))))))))
theorem wk_law_right {p : Pm} {mg : Str → Option Value} {base : Heap} {A : Around} {outer : List Env} {s : Shared} {H : Hp} {E : XK} {f : Addr} {cdv : Value} (B : Blt mg) (k_Pieces : C8.Mak p.P p.w p.K mg base 6 "Pieces" p.CP (sp_Pieces_init p) []) (c_law_numbers : C8.Cal p.P p.w p.K mg base 3 "_law_numbers" (sp_law_numbers p) []) (c_law_turns_right : C8.Cal p.P p.w p.K mg base 1 "_law_turns_right" (sp_law_turns_right p) []) (c_later_end : C8.Cal p.P p.w p.K mg base 12 "later_end" (sp_later_end p) []) (c_earlier_start : C8.Cal p.P p.w p.K mg base 12 "earlier_start" (sp_earlier_start p) [.int 0]) (c_fewer : C8.Cal p.P p.w p.K mg base 12 "fewer" (sp_fewer p) []) (c_law_borne : C8.Cal p.P p.w p.K mg base 3 "_law_borne" (sp_law_borne p) []) (c_law_instead_right : C8.Cal p.P p.w p.K mg base 13 "_law_instead_right" (sp_law_instead_right p) []) (m_Pieces_told : C8.Met p.P p.w p.K mg base 1 p.CP "told" (sp_Pieces_told p) []) (hr : Room 13 (A.deeper (envOfC "_law_right" (defScope s_law_right) s.heap.objs.size f cdv))) :
    PSs (cxOf C8.CX0 p.P p.w p.K mg base ["_law_rows", "_law_failings", "_law_row", "_law_pieces", "_law_later", "_law_earlier", "_law_found"] "_law_right" (defScope s_law_right) f cdv A outer s H E).nox (defBody s_law_right) (t_law_right p) :=
  (pss_cons (ps_set (i := 3) sc_law_right.nd rfl (Or.inl rfl) (C8.pe_mk k_Pieces hr (by decide) rfl (pa_cons (pv 0) pa_nil)))
    (pss_cons (ps_set (i := 4) sc_law_right.nd rfl (Or.inl rfl) (C8.pe_c c_law_numbers hr (by decide) rfl (pa_cons (pv 0) (pa_cons (pv 1) (pa_cons (pv 2) (pa_cons pe_int (pa_cons pe_int (pa_cons (pe_op op_sub pe_int (pe_ix ix_tup (pv 2) pe_int (fun _ _ => rfl))) pa_nil))))))))
    (pss_cons (ps_if (pt_not (pt_val (C8.pe_c c_law_turns_right hr (by decide) rfl (pa_cons (C8.pe_c c_later_end hr (by decide) rfl (pa_cons (pv 3) (pa_cons (pv 1) (pa_cons (pv 2) pa_nil)))) (pa_cons (pv 4) (pa_cons (pe_op op_sub pe_int (pe_ix ix_tup (pv 2) pe_int (fun _ _ => rfl))) pa_nil)))))) (pss_one (ps_ret pe_bl)) pss_nil)
    (pss_cons (ps_set (i := 5) sc_law_right.nd rfl (Or.inl rfl) (C8.pe_c c_law_numbers hr (by decide) rfl (pa_cons (pv 0) (pa_cons (pv 1) (pa_cons (pv 2) (pa_cons pe_int (pa_cons (pe_op op_sub pe_int pe_int) (pa_cons (pe_ix ix_tup (pv 2) pe_int (fun _ _ => rfl)) pa_nil))))))))
    (pss_cons (ps_if (pt_not (pt_val (C8.pe_c c_law_turns_right hr (by decide) rfl (pa_cons (C8.pe_c c_earlier_start hr (by decide) rfl (pa_cons (pv 3) (pa_cons (pv 1) (pa_cons (pv 2) pa_nil)))) (pa_cons (pv 5) (pa_cons (pe_ix ix_tup (pv 2) pe_int (fun _ _ => rfl)) pa_nil)))))) (pss_one (ps_ret pe_bl)) pss_nil)
    (pss_cons (ps_set (i := 6) sc_law_right.nd rfl (Or.inl rfl) (C8.pe_c c_fewer hr (by decide) rfl (pa_cons (pv 3) (pa_cons (pv 1) (pa_cons (pv 2) pa_nil)))))
    (pss_cons (ps_if (PW.pt (pw_or (pt_not (pt_val (pe_callB call_isi rfl B.isinstance bt_isinstance (pa_cons (pv 6) (pa_cons (pe_bltn rfl B.int bt_int rfl) pa_nil))))) (pw_or (pt_val (pe_callB call_isi rfl B.isinstance bt_isinstance (pa_cons (pv 6) (pa_cons (pe_bltn rfl B.bool bt_bool rfl) pa_nil)))) (pw_or (pt_cmpR op_ne (pv 6) (C8.pe_c c_law_borne hr (by decide) rfl (pa_cons (pe_op op_cat (pv 0) (pe_lst (pa_cons (pv 2) pa_nil))) pa_nil)) (nomark _)) (pw_or1 (pt_cmpR op_ge (pv 6) (pv 1) (nomark _))))))) (pss_one (ps_ret pe_bl)) pss_nil)
    (pss_one (ps_ret (pe_and (C8.pe_c c_law_instead_right hr (by decide) rfl (pa_cons (pv 3) (pa_cons (pv 0) (pa_cons (pv 1) (pa_cons (pv 2) pa_nil))))) (pe_one (pe_cmpR (op_eqD hr.units) (C8.pe_mt0 m_Pieces_told hr (by decide) (pv 3)) (pe_callTy call_tuple_of rfl B.tuple bt_tuple (pa_cons (pv 0) pa_nil)) (nomark _)))))))))))))
theorem wk_law {p : Pm} {mg : Str → Option Value} {base : Heap} {A : Around} {outer : List Env} {s : Shared} {H : Hp} {E : XK} {f : Addr} {cdv : Value} (B : Blt mg) (c_law_box : C8.Cal p.P p.w p.K mg base 1 "_law_box" (sp_law_box p) []) (c_law_cell : C8.Cal p.P p.w p.K mg base 1 "_law_cell" (sp_law_cell p) []) (c_law_take : C8.Cal p.P p.w p.K mg base 1 "_law_take" (sp_law_take p) []) (c_law_promised : C8.Cal p.P p.w p.K mg base 3 "_law_promised" (sp_law_promised p) []) (c_law_names : C8.Cal p.P p.w p.K mg base 2 "_law_names" (sp_law_names p) []) (c_law_right : C8.Cal p.P p.w p.K mg base 14 "_law_right" (sp_law_right p) []) (hr : Room 14 (A.deeper (envOfC "law" (defScope s_law) s.heap.objs.size f cdv))) :
    PSs (cxOf C8.CX0 p.P p.w p.K mg base ["_law_script", "_law_k", "_law_box_here", "_law_failings", "_law_rows", "_law_refused", "_law_row"] "law" (defScope s_law) f cdv A outer s H E).nox (defBody s_law) (t_law p) :=
  (pss_cons (ps_for PassesOwn.never rfl (pi_range1 rfl B.range (pa_cons (pe_callB (call_max2 rfl) rfl B.max bt_max (pa_cons pe_int (pa_cons (pe_callB (call_min2 rfl) rfl B.min bt_min (pa_cons (pe_callB call_len_seq rfl B.len bt_len (pa_cons (pv 0) pa_nil)) (pa_cons pe_int pa_nil))) pa_nil))) pa_nil)) (pg_name (i := 1) sc_law.nd rfl (Or.inl rfl)) (pss_cons (ps_set (i := 2) sc_law.nd rfl (Or.inl rfl) (C8.pe_c c_law_box hr (by decide) rfl (pa_cons (C8.pe_c c_law_cell hr (by decide) rfl (pa_cons (pv 0) (pa_cons (pv 1) pa_nil))) pa_nil)))
    (pss_cons (ps_set (i := 3) sc_law.nd rfl (Or.inl rfl) (pe_ix ix_list (pe_lst (pa_cons (C8.pe_c c_law_take hr (by decide) rfl (pa_cons (pv 2) (pa_cons pe_int pa_nil))) (pa_cons (C8.pe_c c_law_take hr (by decide) rfl (pa_cons (pv 2) (pa_cons pe_int pa_nil))) pa_nil))) (pe_callTy call_int1 rfl B.int bt_int (pa_cons (pe_cmpR op_eq (C8.pe_c c_law_take hr (by decide) rfl (pa_cons (pv 2) (pa_cons pe_int pa_nil))) pe_int (nomark _)) pa_nil)) (fun _ _ => rfl)))
    (pss_cons (ps_asg (C8.pe_c c_law_promised hr (by decide) rfl (pa_cons (pv 2) (pa_cons (C8.pe_c c_law_names hr (by decide) rfl (pa_cons (pv 2) (pa_cons pe_int pa_nil))) (pa_cons (pv 3) pa_nil)))) (pg_unl rfl (pgs_cons (pg_name (i := 4) sc_law.nd rfl (Or.inl rfl)) (pgs_cons (pg_name (i := 5) sc_law.nd rfl (Or.inl rfl)) pgs_nil))))
    (pss_one (ps_for PassesOwn.never rfl (pi_list (pe_slice sl_list (pv 5) (po_some (pe_un un_neg pe_int)) po_none)) (pg_name (i := 6) sc_law.nd rfl (Or.inl rfl)) (pss_one (ps_if (pt_not (pt_val (C8.pe_c c_law_right hr (by decide) rfl (pa_cons (pv 4) (pa_cons (pv 3) (pa_cons (pv 6) pa_nil)))))) (pss_one (ps_ret pe_bl)) pss_nil))))))))
    (pss_one (ps_ret pe_bl)))
end Fs

set_option Elab.async false
set_option linter.all false
set_option maxRecDepth 100000
set_option maxHeartbeats 4000000
/-! the walks (printed by gen_walk.py) -/
namespace Fs
open PySem PySem.Spec PyProof.Rows L2 Evl
open LamX NdefX
/-! ### the lambdas of the text -/
def retE : Stmt → Expr
  | .Return (some e) _ => e
  | _ => .Constant .none 0 ⟨0, 0, 0, 0⟩
def argE (i : Nat) : Expr → Expr
  | .Call _ as _ _ => as.getD i (.Constant .none 0 ⟨0, 0, 0, 0⟩)
  | e => e
def lamA : Expr → Arguments
  | .Lambda a _ _ _ => a
  | _ => ⟨[], [], none, [], [], none, []⟩
def lamB : Expr → Expr
  | .Lambda _ b _ _ => b
  | e => e
def lamS : Expr → Scope
  | .Lambda _ _ s _ => s
  | _ => ⟨.function, [], false, false, []⟩
abbrev x_counts : Expr := retE ((defBody s_by_counts).getD 0 (.Pass ⟨0, 0, 0, 0⟩))
abbrev x_later : Expr := argE 1 (retE ((defBody s_later_end).getD 2 (.Pass ⟨0, 0, 0, 0⟩)))
abbrev x_earlier : Expr := argE 1 (retE ((defBody s_earlier_start).getD 3 (.Pass ⟨0, 0, 0, 0⟩)))
def LmB : Lm := ⟨⟨"by_counts.<locals>.<lambda>", lamA x_counts, lamS x_counts⟩, lamB x_counts, ["name", "number"], ["counts"], spFails⟩
def LmL (p : Pm) : Lm := ⟨⟨"later_end.<locals>.<lambda>", lamA x_later, lamS x_later⟩, lamB x_later, ["turns"], ["found", "row"], spLater p⟩
def LmE (p : Pm) : Lm := ⟨⟨"earlier_start.<locals>.<lambda>", lamA x_earlier, lamS x_earlier⟩, lamB x_earlier, ["turns"], ["pieces", "row"], spEarlier p⟩
theorem ns_counts : NScope ["name", "number", "counts"] ["name", "number"] ["counts"] (lamS x_counts) := nscope_by (by decide +kernel)
theorem ns_later : NScope ["turns", "found", "row"] ["turns"] ["found", "row"] (lamS x_later) := nscope_by (by decide +kernel)
theorem ns_earlier : NScope ["turns", "pieces", "row"] ["turns"] ["pieces", "row"] (lamS x_earlier) := nscope_by (by decide +kernel)
section
variable {p : Pm} {mg : Str → Option Value} {base : Heap}
theorem lok_counts (cl : List (Str × Addr)) (c : Addr) : LOk p.P p.w p.K mg base 1 (LmB.L.F cl c) LmB.b LmB.ps LmB.fr LmB.sp := by
  refine lok_of (k := 0) (N := ["name", "number", "counts"]) ns_counts (fun pm ctv us hl => match us, hl with | [_, _], _ => rfl) (fun ws vs H Q E h => ?_) fun f A outer s H vs ws Q E hr hws h => ⟨t_lam_counts, ?_, ?_⟩
  · obtain ⟨d, z, n, _, ev, _⟩ := h
    rw [ev]; rfl
  · exact pe_cmpR op_lt (pv 1) (pe_dget2 (hu_of hr) (pv 2) (pv 0) pe_int (by constructor <;> rfl)) (nomark _)
  · obtain ⟨d, z, n, ew, ev, n0, hd, hq⟩ := h
    subst ew; subst ev
    exact rd_lam_counts hd n0 hq
theorem lok_later (m_with_last : C8.Met p.P p.w p.K mg base 9 p.CP "with_last" (sp_Pieces_with_last p) []) (cl : List (Str × Addr)) (c : Addr) : LOk p.P p.w p.K mg base 10 ((LmL p).L.F cl c) (LmL p).b (LmL p).ps (LmL p).fr (LmL p).sp := by
  refine lok_of (k := 9) (N := ["turns", "found", "row"]) ns_later (fun pm ctv us hl => match us, hl with | [_], _ => rfl) (fun ws vs H Q E h => ?_) fun f A outer s H vs ws Q E hr hws h => ⟨t_lam_later p, ?_, rd_lam_later p (E := E) h⟩
  · obtain ⟨fo, y, rs, r, t, _, ev, _⟩ := h
    rw [ev]; rfl
  · exact C8.pe_mt m_with_last hr (by decide) (pv 1) (pa_cons (pe_ix ix_tup (pv 2) pe_int (fun _ _ => rfl)) (pa_cons (pe_op op_add (pe_ix ix_tup (pv 2) pe_int (fun _ _ => rfl)) (pv 0)) pa_nil))
theorem lok_earlier (m_with_row : C8.Met p.P p.w p.K mg base 8 p.CP "with_row" (sp_Pieces_with_row p) []) (cl : List (Str × Addr)) (c : Addr) : LOk p.P p.w p.K mg base 10 ((LmE p).L.F cl c) (LmE p).b (LmE p).ps (LmE p).fr (LmE p).sp := by
  refine lok_of (k := 9) (N := ["turns", "pieces", "row"]) ns_earlier (fun pm ctv us hl => match us, hl with | [_], _ => rfl) (fun ws vs H Q E h => ?_) fun f A outer s H vs ws Q E hr hws h => ⟨t_lam_earlier p, ?_, rd_lam_earlier p (E := E) h⟩
  · obtain ⟨fo, y, rs, r, t, _, ev, _⟩ := h
    rw [ev]; rfl
  · exact C8.pe_mt m_with_row hr (by decide) (pv 1) (pa_cons (pe_op op_catA (pe_tup (pa_cons (pe_ix ix_tup (pv 2) pe_int (fun _ _ => rfl)) (pa_cons (pe_op op_sub (pe_ix ix_tup (pv 2) pe_int (fun _ _ => rfl)) (pv 0)) pa_nil))) (pe_slice sl_tupA (pv 2) (po_some pe_int) po_none)) pa_nil)
theorem sc_later_end : FnScope ["pieces", "failings", "row", "found"] ["pieces", "failings", "row"] (defScope s_later_end) := ⟨rfl, rfl, rfl, by decide +kernel, rfl, by decide +kernel, by decide +kernel⟩
theorem sc_earlier_start : FnScope ["pieces", "failings", "row", "now"] ["pieces", "failings", "row", "now"] (defScope s_earlier_start) := ⟨rfl, rfl, rfl, by decide +kernel, rfl, by decide +kernel, by decide +kernel⟩
theorem sc_by_counts : FnScope ["counts"] ["counts"] (defScope s_by_counts) := ⟨rfl, rfl, rfl, by decide +kernel, rfl, by decide +kernel, by decide +kernel⟩
/-- the rule for a def whose code object is asked -/
theorem okC {P : Program} {w : World} {K : PySem.W.Frag} {x qual : Str} {params : Arguments} {body : List Stmt} {scope : Scope} {dvs : List V} {kws : List (Str × V)} {f : Addr} {fd : FuncData} {CX : CXT} {N ps : List Str} {k : Nat} {sp : Sp} (F : FunD K x qual params body scope dvs kws f fd) (S : FnScope N ps scope) (len : ∀ vs H Q E, sp vs H Q E → vs.length = ps.length)
    (hbody : ∀ (A : Around) (outer : List Env) (s : Shared) (H : Hp) (vs : List V) (Q : VK) (E : XK), Room k (A.deeper (envOfC qual scope s.heap.objs.size f fd.code)) → sp vs H Q E →
      ∃ t, PSs (cxOf CX P w K mg base N qual scope f fd.code A outer s H E) body t ∧ t { nx := fun _ H' => Q .non H', rt := Q } (start N vs) H) : FnOk P w K mg base CX (k + 1) f fd ps sp := by
  obtain ⟨oc, od, dV, kV, doc, pm, an, cdv, ct, osl, rfl, lk, hcd, _, _⟩ := F.ex
  exact fn_of lk hcd S len hbody
theorem wk_later_end (C : Cns mg p) {Pt cc : Addr} (TB : TabB base mg cc Pt) (hm : (Pt, (LmL p).L.qual) ∈ p.T) (hu : ∀ q ∈ p.T, q.1 = Pt → q.2 = (LmL p).L.qual) (c_need_failings : C8.Cal p.P p.w p.K mg base 3 "need_failings" (sp_need_failings p) []) (c_refused_with : C8.Cal p.P p.w p.K mg base 11 "refused_with" (sp_refused_with p) [])
    (c_least_turns : C8.Cal p.P p.w p.K mg base 11 "least_turns" (sp_least_turns p (LmL p)) []) {A : Around} {outer : List Env} {s : Shared} {H : Hp} {E : XK} {f : Addr} (hr : Room 11 (A.deeper (envOfC "later_end" (defScope s_later_end) s.heap.objs.size f (.ref cc)))) :
    PSs (cxOf C8.CX0 p.P p.w p.K mg base ["pieces", "failings", "row", "found"] "later_end" (defScope s_later_end) f (.ref cc) A outer s H E) (defBody s_later_end) (t_later_end p (LmL p) (cloFrom (envOfC "later_end" (defScope s_later_end) s.heap.objs.size f (.ref cc)).cells (lamS x_later).names [])) := by
  obtain ⟨lf, lfd, lps, lds, F, lm, lkp, lb, ld⟩ := c_least_turns.ex
  have hds : lds = [] := by cases ld; rfl
  subst hds
  have hfree : ∀ y ∈ (lamS x_later).names, y.2 = .free → (defScope s_later_end).names.lookup y.1 = some .cell ∨ (defScope s_later_end).names.lookup y.1 = some .free := by decide +kernel
  exact (pss_cons (ps_expr (C8.pe_c c_need_failings hr (by decide) rfl (pa_cons (pv 1) pa_nil)))
    (pss_cons (ps_set (i := 3) sc_later_end.nd rfl (Or.inr rfl) (C8.pe_c c_refused_with hr (by decide) rfl (pa_cons (pv 0) (pa_cons (pv 1) (pa_cons (pv 2) pa_nil)))))
    (pss_one (ps_ret (pe_trk (L := (LmL p).L) (b := (LmL p).b) (fr := (LmL p).fr) (js := [3, 2]) F hr (by decide) rfl lm lkp lb (fun ok => Caps.made ok hfree (show ∀ y ∈ (["found", "row"] : List Str), (y, NameKind.free) ∈ (lamS x_later).names from by decide +kernel) rfl) (fun _ => rfl)
      (pa_cons (pv 1) (pa_cons (pe_lam (L := (LmL p).L) TB rfl rfl hm hu rfl hfree) (pa_cons (pe_op op_sub (C8.pe_gc rfl C.MOST_TURN_hindsight) (pe_ix ix_tup (pv 2) pe_int (fun _ _ => rfl))) pa_nil))))))))
theorem wk_earlier_start (C : Cns mg p) {Pt cc : Addr} (TB : TabB base mg cc Pt) (hm : (Pt, (LmE p).L.qual) ∈ p.T) (hu : ∀ q ∈ p.T, q.1 = Pt → q.2 = (LmE p).L.qual) (c_need_failings : C8.Cal p.P p.w p.K mg base 3 "need_failings" (sp_need_failings p) []) (c_is_within : C8.Cal p.P p.w p.K mg base 2 "is_within" (sp_is_within p) []) (c_refused_with : C8.Cal p.P p.w p.K mg base 11 "refused_with" (sp_refused_with p) [])
    (c_least_turns : C8.Cal p.P p.w p.K mg base 11 "least_turns" (sp_least_turns p (LmE p)) []) {A : Around} {outer : List Env} {s : Shared} {H : Hp} {E : XK} {f : Addr} (hr : Room 11 (A.deeper (envOfC "earlier_start" (defScope s_earlier_start) s.heap.objs.size f (.ref cc)))) :
    PSs (cxOf C8.CX0 p.P p.w p.K mg base ["pieces", "failings", "row", "now"] "earlier_start" (defScope s_earlier_start) f (.ref cc) A outer s H E) (defBody s_earlier_start) (t_earlier_start p (LmE p) (cloFrom (envOfC "earlier_start" (defScope s_earlier_start) s.heap.objs.size f (.ref cc)).cells (lamS x_earlier).names [])) := by
  obtain ⟨lf, lfd, lps, lds, F, lm, lkp, lb, ld⟩ := c_least_turns.ex
  have hds : lds = [] := by cases ld; rfl
  subst hds
  have hfree : ∀ y ∈ (lamS x_earlier).names, y.2 = .free → (defScope s_earlier_start).names.lookup y.1 = some .cell ∨ (defScope s_earlier_start).names.lookup y.1 = some .free := by decide +kernel
  exact (pss_cons (ps_expr (C8.pe_c c_need_failings hr (by decide) rfl (pa_cons (pv 1) pa_nil)))
    (pss_cons (ps_if (pt_not (pt_val (C8.pe_c c_is_within hr (by decide) rfl (pa_cons (pv 3) (pa_cons pe_int (pa_cons (pe_op op_add (C8.pe_gc rfl C.MOST_TURN_hindsight) pe_int) pa_nil)))))) pss_never pss_nil)
    (pss_cons (ps_expr (C8.pe_c c_refused_with hr (by decide) rfl (pa_cons (pv 0) (pa_cons (pv 1) (pa_cons (pv 2) pa_nil)))))
    (pss_one (ps_ret (pe_trk (L := (LmE p).L) (b := (LmE p).b) (fr := (LmE p).fr) (js := [0, 2]) F hr (by decide) rfl lm lkp lb (fun ok => Caps.made ok hfree (show ∀ y ∈ (["pieces", "row"] : List Str), (y, NameKind.free) ∈ (lamS x_earlier).names from by decide +kernel) rfl) (fun _ => rfl)
      (pa_cons (pv 1) (pa_cons (pe_lam (L := (LmE p).L) TB rfl rfl hm hu rfl hfree) (pa_cons (pe_op op_sub (pe_ix ix_tup (pv 2) pe_int (fun _ _ => rfl)) (pv 3)) pa_nil)))))))))
theorem ok_by_counts {f cc Pt : Addr} {fd : FuncData} (F : FunD p.K "by_counts" "by_counts" (defArgs s_by_counts) (defBody s_by_counts) (defScope s_by_counts) [] [] f fd) (hcode : fd.code = .ref cc) (TB : TabB base mg cc Pt) (hB : p.B = LmB) (hm : (Pt, LmB.L.qual) ∈ p.T) (hu : ∀ q ∈ p.T, q.1 = Pt → q.2 = LmB.L.qual) :
    FnOk p.P p.w p.K mg base C8.CX0 1 f fd ["counts"] (sp_by_counts p) := by
  obtain ⟨oc, od, dV, kV, doc, pm, an, cdv, ct, osl, rfl, lk, hcd, _, _⟩ := F.ex
  have e : cdv = .ref cc := hcode
  subst e
  unfold sp_by_counts
  rw [hB]
  exact fn_maker (k := 0) (lp := lamA x_counts) (bx := lamB x_counts) (lsc := lamS x_counts) lk hcd sc_by_counts TB (L := LmB.L) (fun n f => rfl) hm hu (fun _ => rfl) (by decide +kernel) (by decide +kernel)
end
end Fs

set_option Elab.async false
set_option linter.all false
set_option maxRecDepth 100000
set_option maxHeartbeats 4000000
/-! the walks (printed by gen_walk.py) -/
namespace Fs
open PySem PySem.Spec PyProof.Rows L2 Evl
open LamX NdefX
section
variable {p : Pm} {mg : Str → Option Value} {base h : Heap}
theorem cal_is_whole (X : p.K.In h) (G : h.Ns mainGlobals mg) (z : He.SaysD fa fn p.K) (B : Blt mg) (C : Cns mg p) (o : PmOk p) (hBe : p.B = LmB) : C8.Cal p.P p.w p.K mg base 1 "is_whole" (sp_is_whole p) [] := by
  obtain ⟨fd, F⟩ := z.def_ 0 (d := d_is_whole) rfl
  have ok : FnOk p.P p.w p.K mg base C8.CX0 1 (He.fAd p.K d_is_whole.at_) fd ["thing"] (sp_is_whole p) :=
    F.ok sc_is_whole (fun vs H Q E h => by obtain ⟨R, ⟨b0, ev, _⟩, _⟩ := h; rw [ev]; rfl) fun cdv A outer s H vs Q E hr h => ⟨t_is_whole p, PSs.nox (wk_is_whole B hr), rd_is_whole p vs H Q E h⟩
  exact ⟨_, fd, _, [], ok, (He.glo_ok X G (z.fact 0 (f := .glo "is_whole") rfl)), F.kp, (F.bindsN fun _ _ _ _ _ _ us hl => match us, hl with | [_], _ => rfl), .nil⟩
theorem cal_is_within (X : p.K.In h) (G : h.Ns mainGlobals mg) (z : He.SaysD fa fn p.K) (B : Blt mg) (C : Cns mg p) (o : PmOk p) (hBe : p.B = LmB) (c_is_whole : C8.Cal p.P p.w p.K mg base 1 "is_whole" (sp_is_whole p) []) : C8.Cal p.P p.w p.K mg base 2 "is_within" (sp_is_within p) [] := by
  obtain ⟨fd, F⟩ := z.def_ 1 (d := d_is_within) rfl
  have ok : FnOk p.P p.w p.K mg base C8.CX0 2 (He.fAd p.K d_is_within.at_) fd ["thing", "low", "high"] (sp_is_within p) :=
    F.ok sc_is_within (fun vs H Q E h => by obtain ⟨R, ⟨b0, b1, b2, ev, _⟩, _⟩ := h; rw [ev]; rfl) fun cdv A outer s H vs Q E hr h => ⟨t_is_within p, PSs.nox (wk_is_within c_is_whole hr), rd_is_within p vs H Q E h⟩
  exact ⟨_, fd, _, [], ok, (He.glo_ok X G (z.fact 1 (f := .glo "is_within") rfl)), F.kp, (F.bindsN fun _ _ _ _ _ _ us hl => match us, hl with | [_, _, _], _ => rfl), .nil⟩
theorem cal_is_name (X : p.K.In h) (G : h.Ns mainGlobals mg) (z : He.SaysD fa fn p.K) (B : Blt mg) (C : Cns mg p) (o : PmOk p) (hBe : p.B = LmB) : C8.Cal p.P p.w p.K mg base 1 "is_name" (sp_is_name p) [] := by
  obtain ⟨fd, F⟩ := z.def_ 2 (d := d_is_name) rfl
  have ok : FnOk p.P p.w p.K mg base C8.CX0 1 (He.fAd p.K d_is_name.at_) fd ["thing"] (sp_is_name p) :=
    F.ok sc_is_name (fun vs H Q E h => by obtain ⟨R, ⟨b0, ev, _⟩, _⟩ := h; rw [ev]; rfl) fun cdv A outer s H vs Q E hr h => ⟨t_is_name p, PSs.nox (wk_is_name B C hr), rd_is_name p vs H Q E h⟩
  exact ⟨_, fd, _, [], ok, (He.glo_ok X G (z.fact 2 (f := .glo "is_name") rfl)), F.kp, (F.bindsN fun _ _ _ _ _ _ us hl => match us, hl with | [_], _ => rfl), .nil⟩
theorem cal_is_stretch (X : p.K.In h) (G : h.Ns mainGlobals mg) (z : He.SaysD fa fn p.K) (B : Blt mg) (C : Cns mg p) (o : PmOk p) (hBe : p.B = LmB) (c_is_within : C8.Cal p.P p.w p.K mg base 2 "is_within" (sp_is_within p) []) : C8.Cal p.P p.w p.K mg base 3 "is_stretch" (sp_is_stretch p) [] := by
  obtain ⟨fd, F⟩ := z.def_ 14 (d := d_is_stretch) rfl
  have ok : FnOk p.P p.w p.K mg base C8.CX0 3 (He.fAd p.K d_is_stretch.at_) fd ["thing"] (sp_is_stretch p) :=
    F.ok sc_is_stretch (fun vs H Q E h => by obtain ⟨R, ⟨b0, b1, ev, _⟩, _⟩ := h; rw [ev]; rfl) fun cdv A outer s H vs Q E hr h => ⟨t_is_stretch p, PSs.nox (wk_is_stretch B C c_is_within hr), rd_is_stretch p vs H Q E h⟩
  exact ⟨_, fd, _, [], ok, (He.glo_ok X G (z.fact 7 (f := .glo "is_stretch") rfl)), F.kp, (F.bindsN fun _ _ _ _ _ _ us hl => match us, hl with | [_], _ => rfl), .nil⟩
theorem cal_need_stretch (X : p.K.In h) (G : h.Ns mainGlobals mg) (z : He.SaysD fa fn p.K) (B : Blt mg) (C : Cns mg p) (o : PmOk p) (hBe : p.B = LmB) (c_is_stretch : C8.Cal p.P p.w p.K mg base 3 "is_stretch" (sp_is_stretch p) []) : C8.Cal p.P p.w p.K mg base 4 "need_stretch" (sp_need_stretch p) [] := by
  obtain ⟨fd, F⟩ := z.def_ 15 (d := d_need_stretch) rfl
  have ok : FnOk p.P p.w p.K mg base C8.CX0 4 (He.fAd p.K d_need_stretch.at_) fd ["thing"] (sp_need_stretch p) :=
    F.ok sc_need_stretch (fun vs H Q E h => by obtain ⟨R, ⟨b0, b1, ev, _⟩, _⟩ := h; rw [ev]; rfl) fun cdv A outer s H vs Q E hr h => ⟨t_need_stretch p, PSs.nox (wk_need_stretch c_is_stretch hr), rd_need_stretch p vs H Q E h⟩
  exact ⟨_, fd, _, [], ok, (He.glo_ok X G (z.fact 8 (f := .glo "need_stretch") rfl)), F.kp, (F.bindsN fun _ _ _ _ _ _ us hl => match us, hl with | [_], _ => rfl), .nil⟩
theorem cal_need_failings (X : p.K.In h) (G : h.Ns mainGlobals mg) (z : He.SaysD fa fn p.K) (B : Blt mg) (C : Cns mg p) (o : PmOk p) (hBe : p.B = LmB) (c_is_within : C8.Cal p.P p.w p.K mg base 2 "is_within" (sp_is_within p) []) : C8.Cal p.P p.w p.K mg base 3 "need_failings" (sp_need_failings p) [] := by
  obtain ⟨fd, F⟩ := z.def_ 16 (d := d_need_failings) rfl
  have ok : FnOk p.P p.w p.K mg base C8.CX0 3 (He.fAd p.K d_need_failings.at_) fd ["thing"] (sp_need_failings p) :=
    F.ok sc_need_failings (fun vs H Q E h => by obtain ⟨R, ⟨b0, ev, _⟩, _⟩ := h; rw [ev]; rfl) fun cdv A outer s H vs Q E hr h => ⟨t_need_failings p, PSs.nox (wk_need_failings C c_is_within hr), rd_need_failings p vs H Q E h⟩
  exact ⟨_, fd, _, [], ok, (He.glo_ok X G (z.fact 9 (f := .glo "need_failings") rfl)), F.kp, (F.bindsN fun _ _ _ _ _ _ us hl => match us, hl with | [_], _ => rfl), .nil⟩
theorem cal_room (X : p.K.In h) (G : h.Ns mainGlobals mg) (z : He.SaysD fa fn p.K) (B : Blt mg) (C : Cns mg p) (o : PmOk p) (hBe : p.B = LmB) (c_need_stretch : C8.Cal p.P p.w p.K mg base 4 "need_stretch" (sp_need_stretch p) []) : C8.Cal p.P p.w p.K mg base 5 "room" (sp_room p) [] := by
  obtain ⟨fd, F⟩ := z.def_ 17 (d := d_room) rfl
  have ok : FnOk p.P p.w p.K mg base C8.CX0 5 (He.fAd p.K d_room.at_) fd ["stretch"] (sp_room p) :=
    F.ok sc_room (fun vs H Q E h => by obtain ⟨R, ⟨b0, b1, ev, _⟩, _⟩ := h; rw [ev]; rfl) fun cdv A outer s H vs Q E hr h => ⟨t_room p, PSs.nox (wk_room c_need_stretch hr), rd_room p vs H Q E h⟩
  exact ⟨_, fd, _, [], ok, (He.glo_ok X G (z.fact 10 (f := .glo "room") rfl)), F.kp, (F.bindsN fun _ _ _ _ _ _ us hl => match us, hl with | [_], _ => rfl), .nil⟩
theorem cal_window_fault (X : p.K.In h) (G : h.Ns mainGlobals mg) (z : He.SaysD fa fn p.K) (B : Blt mg) (C : Cns mg p) (o : PmOk p) (hBe : p.B = LmB) (c_is_within : C8.Cal p.P p.w p.K mg base 2 "is_within" (sp_is_within p) []) : C8.Cal p.P p.w p.K mg base 3 "window_fault" (sp_window_fault p) [] := by
  obtain ⟨fd, F⟩ := z.def_ 56 (d := d_window_fault) rfl
  have ok : FnOk p.P p.w p.K mg base C8.CX0 3 (He.fAd p.K d_window_fault.at_) fd ["row"] (sp_window_fault p) :=
    F.ok sc_window_fault (fun vs H Q E h => by obtain ⟨R, ⟨b0, b1, ev, _⟩, _⟩ := h; rw [ev]; rfl) fun cdv A outer s H vs Q E hr h => ⟨t_window_fault p, PSs.nox (wk_window_fault B C c_is_within hr), rd_window_fault p vs H Q E h⟩
  exact ⟨_, fd, _, [], ok, (He.glo_ok X G (z.fact 32 (f := .glo "window_fault") rfl)), F.kp, (F.bindsN fun _ _ _ _ _ _ us hl => match us, hl with | [_], _ => rfl), .nil⟩
theorem cal_row_fault (X : p.K.In h) (G : h.Ns mainGlobals mg) (z : He.SaysD fa fn p.K) (B : Blt mg) (C : Cns mg p) (o : PmOk p) (hBe : p.B = LmB) (c_is_name : C8.Cal p.P p.w p.K mg base 1 "is_name" (sp_is_name p) []) (c_window_fault : C8.Cal p.P p.w p.K mg base 3 "window_fault" (sp_window_fault p) []) : C8.Cal p.P p.w p.K mg base 4 "row_fault" (sp_row_fault p) [] := by
  obtain ⟨fd, F⟩ := z.def_ 57 (d := d_row_fault) rfl
  have ok : FnOk p.P p.w p.K mg base C8.CX0 4 (He.fAd p.K d_row_fault.at_) fd ["known", "row"] (sp_row_fault p) :=
    F.ok sc_row_fault (fun vs H Q E h => by obtain ⟨R, ⟨b0, b1, b2, b3, ev, _⟩, _⟩ := h; rw [ev]; rfl) fun cdv A outer s H vs Q E hr h => ⟨t_row_fault p, PSs.nox (wk_row_fault B c_is_name c_window_fault hr), rd_row_fault p vs H Q E h⟩
  exact ⟨_, fd, _, [], ok, (He.glo_ok X G (z.fact 33 (f := .glo "row_fault") rfl)), F.kp, (F.bindsN fun _ _ _ _ _ _ us hl => match us, hl with | [_, _], _ => rfl), .nil⟩
theorem cal_five_of (X : p.K.In h) (G : h.Ns mainGlobals mg) (z : He.SaysD fa fn p.K) (B : Blt mg) (C : Cns mg p) (o : PmOk p) (hBe : p.B = LmB) : C8.Cal p.P p.w p.K mg base 1 "five_of" (sp_five_of p) [] := by
  obtain ⟨fd, F⟩ := z.def_ 58 (d := d_five_of) rfl
  have ok : FnOk p.P p.w p.K mg base C8.CX0 1 (He.fAd p.K d_five_of.at_) fd ["row"] (sp_five_of p) :=
    F.ok sc_five_of (fun vs H Q E h => by obtain ⟨R, ⟨b0, b1, ev, _⟩, _⟩ := h; rw [ev]; rfl) fun cdv A outer s H vs Q E hr h => ⟨t_five_of p, PSs.nox (wk_five_of B hr), rd_five_of p vs H Q E h⟩
  exact ⟨_, fd, _, [], ok, (He.glo_ok X G (z.fact 34 (f := .glo "five_of") rfl)), F.kp, (F.bindsN fun _ _ _ _ _ _ us hl => match us, hl with | [_], _ => rfl), .nil⟩
theorem cal_five_rows (X : p.K.In h) (G : h.Ns mainGlobals mg) (z : He.SaysD fa fn p.K) (B : Blt mg) (C : Cns mg p) (o : PmOk p) (hBe : p.B = LmB) (c_row_fault : C8.Cal p.P p.w p.K mg base 4 "row_fault" (sp_row_fault p) []) (c_five_of : C8.Cal p.P p.w p.K mg base 1 "five_of" (sp_five_of p) []) : C8.Cal p.P p.w p.K mg base 5 "five_rows" (sp_five_rows p) [] := by
  obtain ⟨fd, F⟩ := z.def_ 59 (d := d_five_rows) rfl
  have ok : FnOk p.P p.w p.K mg base C8.CX0 5 (He.fAd p.K d_five_rows.at_) fd ["rows"] (sp_five_rows p) :=
    F.ok sc_five_rows (fun vs H Q E h => by obtain ⟨R, ⟨b0, b1, b2, ev, _⟩, _⟩ := h; rw [ev]; rfl) fun cdv A outer s H vs Q E hr h => ⟨t_five_rows p, PSs.nox (wk_five_rows B C c_row_fault c_five_of hr), rd_five_rows p vs H Q E h⟩
  exact ⟨_, fd, _, [], ok, (He.glo_ok X G (z.fact 35 (f := .glo "five_rows") rfl)), F.kp, (F.bindsN fun _ _ _ _ _ _ us hl => match us, hl with | [_], _ => rfl), .nil⟩
theorem mak_Pieces (X : p.K.In h) (G : h.Ns mainGlobals mg) (z : He.SaysD fa fn p.K) (B : Blt mg) (C : Cns mg p) (o : PmOk p) (hBe : p.B = LmB) (eC : Mk p.K p.CP (He.fAd p.K d_Pieces_init.at_) ∧ mg "Pieces" = some (.ref p.CP)) (c_five_rows : C8.Cal p.P p.w p.K mg base 5 "five_rows" (sp_five_rows p) []) : C8.Mak p.P p.w p.K mg base 6 "Pieces" p.CP (sp_Pieces_init p) [] := by
  obtain ⟨fd, F⟩ := z.def_ 60 (d := d_Pieces_init) rfl
  have ok : FnOk p.P p.w p.K mg base C8.CX0 6 (He.fAd p.K d_Pieces_init.at_) fd ["self", "rows"] (sp_Pieces_init p) :=
    F.ok sc_Pieces_init (fun vs H Q E h => by obtain ⟨x, dx, as, R, ev, _, ⟨b0, b1, b2, ea, _⟩, _⟩ := h; rw [ev, ea]; rfl) fun cdv A outer s H vs Q E hr h => ⟨t_Pieces_init p, PSs.nox (wk_Pieces_init c_five_rows hr), rd_Pieces_init p o vs H Q E h⟩
  exact ⟨_, fd, _, [], eC.1, ok, eC.2, (F.bindsN fun _ _ _ _ _ _ us hl => match us, hl with | [_, _], _ => rfl), .nil⟩
theorem met_Pieces_told (X : p.K.In h) (G : h.Ns mainGlobals mg) (z : He.SaysD fa fn p.K) (B : Blt mg) (C : Cns mg p) (o : PmOk p) (hBe : p.B = LmB) (eM : Cls p.K p.CP ∧ Meth p.K p.CP "told" (He.fAd p.K d_Pieces_told.at_)) : C8.Met p.P p.w p.K mg base 1 p.CP "told" (sp_Pieces_told p) [] := by
  obtain ⟨fd, F⟩ := z.def_ 61 (d := d_Pieces_told) rfl
  have ok : FnOk p.P p.w p.K mg base C8.CX0 1 (He.fAd p.K d_Pieces_told.at_) fd ["self"] (sp_Pieces_told p) :=
    F.ok sc_Pieces_told (fun vs H Q E h => by obtain ⟨R, ⟨b0, b1, ev, _⟩, _⟩ := h; rw [ev]; rfl) fun cdv A outer s H vs Q E hr h => ⟨t_Pieces_told p, PSs.nox (wk_Pieces_told B hr), rd_Pieces_told p o vs H Q E h⟩
  exact ⟨_, fd, _, [], eM.1, eM.2, ok, (F.bindsN fun _ _ _ _ _ _ us hl => match us, hl with | [_], _ => rfl), .nil⟩
theorem met_Pieces_names (X : p.K.In h) (G : h.Ns mainGlobals mg) (z : He.SaysD fa fn p.K) (B : Blt mg) (C : Cns mg p) (o : PmOk p) (hBe : p.B = LmB) (eM : Cls p.K p.CP ∧ Meth p.K p.CP "names" (He.fAd p.K d_Pieces_names.at_)) : C8.Met p.P p.w p.K mg base 1 p.CP "names" (sp_Pieces_names p) [] := by
  obtain ⟨fd, F⟩ := z.def_ 62 (d := d_Pieces_names) rfl
  have ok : FnOk p.P p.w p.K mg base C8.CX0 1 (He.fAd p.K d_Pieces_names.at_) fd ["self"] (sp_Pieces_names p) :=
    F.ok sc_Pieces_names (fun vs H Q E h => by obtain ⟨R, ⟨b0, b1, ev, _⟩, _⟩ := h; rw [ev]; rfl) fun cdv A outer s H vs Q E hr h => ⟨t_Pieces_names p, PSs.nox (wk_Pieces_names B hr), rd_Pieces_names p o vs H Q E h⟩
  exact ⟨_, fd, _, [], eM.1, eM.2, ok, (F.bindsN fun _ _ _ _ _ _ us hl => match us, hl with | [_], _ => rfl), .nil⟩
theorem met_Pieces_has (X : p.K.In h) (G : h.Ns mainGlobals mg) (z : He.SaysD fa fn p.K) (B : Blt mg) (C : Cns mg p) (o : PmOk p) (hBe : p.B = LmB) (eM : Cls p.K p.CP ∧ Meth p.K p.CP "has" (He.fAd p.K d_Pieces_has.at_)) : C8.Met p.P p.w p.K mg base 1 p.CP "has" (sp_Pieces_has p) [] := by
  obtain ⟨fd, F⟩ := z.def_ 63 (d := d_Pieces_has) rfl
  have ok : FnOk p.P p.w p.K mg base C8.CX0 1 (He.fAd p.K d_Pieces_has.at_) fd ["self", "thing"] (sp_Pieces_has p) :=
    F.ok sc_Pieces_has (fun vs H Q E h => by obtain ⟨R, ⟨b0, b1, b2, ev, _⟩, _⟩ := h; rw [ev]; rfl) fun cdv A outer s H vs Q E hr h => ⟨t_Pieces_has p, PSs.nox (wk_Pieces_has B hr), rd_Pieces_has p o vs H Q E h⟩
  exact ⟨_, fd, _, [], eM.1, eM.2, ok, (F.bindsN fun _ _ _ _ _ _ us hl => match us, hl with | [_, _], _ => rfl), .nil⟩
theorem met_Pieces_row (X : p.K.In h) (G : h.Ns mainGlobals mg) (z : He.SaysD fa fn p.K) (B : Blt mg) (C : Cns mg p) (o : PmOk p) (hBe : p.B = LmB) (eM : Cls p.K p.CP ∧ Meth p.K p.CP "row" (He.fAd p.K d_Pieces_row.at_)) (m_Pieces_has : C8.Met p.P p.w p.K mg base 1 p.CP "has" (sp_Pieces_has p) []) : C8.Met p.P p.w p.K mg base 2 p.CP "row" (sp_Pieces_row p) [] := by
  obtain ⟨fd, F⟩ := z.def_ 64 (d := d_Pieces_row) rfl
  have ok : FnOk p.P p.w p.K mg base C8.CX0 2 (He.fAd p.K d_Pieces_row.at_) fd ["self", "name"] (sp_Pieces_row p) :=
    F.ok sc_Pieces_row (fun vs H Q E h => by obtain ⟨R, ⟨b0, b1, b2, ev, _⟩, _⟩ := h; rw [ev]; rfl) fun cdv A outer s H vs Q E hr h => ⟨t_Pieces_row p, PSs.nox (wk_Pieces_row m_Pieces_has hr), rd_Pieces_row p o vs H Q E h⟩
  exact ⟨_, fd, _, [], eM.1, eM.2, ok, (F.bindsN fun _ _ _ _ _ _ us hl => match us, hl with | [_, _], _ => rfl), .nil⟩
theorem met_Pieces_with_row (X : p.K.In h) (G : h.Ns mainGlobals mg) (z : He.SaysD fa fn p.K) (B : Blt mg) (C : Cns mg p) (o : PmOk p) (hBe : p.B = LmB) (eM : Cls p.K p.CP ∧ Meth p.K p.CP "with_row" (He.fAd p.K d_Pieces_with_row.at_)) (k_Pieces : C8.Mak p.P p.w p.K mg base 6 "Pieces" p.CP (sp_Pieces_init p) []) (m_Pieces_told : C8.Met p.P p.w p.K mg base 1 p.CP "told" (sp_Pieces_told p) []) : C8.Met p.P p.w p.K mg base 8 p.CP "with_row" (sp_Pieces_with_row p) [] := by
  obtain ⟨fd, F⟩ := z.def_ 65 (d := d_Pieces_with_row) rfl
  have ok : FnOk p.P p.w p.K mg base C8.CX0 8 (He.fAd p.K d_Pieces_with_row.at_) fd ["self", "row"] (sp_Pieces_with_row p) :=
    F.ok sc_Pieces_with_row (fun vs H Q E h => by obtain ⟨R, ⟨b0, b1, b2, b3, ev, _⟩, _⟩ := h; rw [ev]; rfl) fun cdv A outer s H vs Q E hr h => ⟨t_Pieces_with_row p, PSs.nox (wk_Pieces_with_row B k_Pieces m_Pieces_told hr), rd_Pieces_with_row p o vs H Q E h⟩
  exact ⟨_, fd, _, [], eM.1, eM.2, ok, (F.bindsN fun _ _ _ _ _ _ us hl => match us, hl with | [_, _], _ => rfl), .nil⟩
theorem met_Pieces_without (X : p.K.In h) (G : h.Ns mainGlobals mg) (z : He.SaysD fa fn p.K) (B : Blt mg) (C : Cns mg p) (o : PmOk p) (hBe : p.B = LmB) (eM : Cls p.K p.CP ∧ Meth p.K p.CP "without" (He.fAd p.K d_Pieces_without.at_)) (m_Pieces_row : C8.Met p.P p.w p.K mg base 2 p.CP "row" (sp_Pieces_row p) []) (k_Pieces : C8.Mak p.P p.w p.K mg base 6 "Pieces" p.CP (sp_Pieces_init p) []) (m_Pieces_told : C8.Met p.P p.w p.K mg base 1 p.CP "told" (sp_Pieces_told p) []) : C8.Met p.P p.w p.K mg base 8 p.CP "without" (sp_Pieces_without p) [] := by
  obtain ⟨fd, F⟩ := z.def_ 66 (d := d_Pieces_without) rfl
  have ok : FnOk p.P p.w p.K mg base C8.CX0 8 (He.fAd p.K d_Pieces_without.at_) fd ["self", "name"] (sp_Pieces_without p) :=
    F.ok sc_Pieces_without (fun vs H Q E h => by obtain ⟨R, ⟨b0, b1, b2, ev, _⟩, _⟩ := h; rw [ev]; rfl) fun cdv A outer s H vs Q E hr h => ⟨t_Pieces_without p, PSs.nox (wk_Pieces_without m_Pieces_row k_Pieces m_Pieces_told hr), rd_Pieces_without p o vs H Q E h⟩
  exact ⟨_, fd, _, [], eM.1, eM.2, ok, (F.bindsN fun _ _ _ _ _ _ us hl => match us, hl with | [_, _], _ => rfl), .nil⟩
theorem met_Pieces_put_at (X : p.K.In h) (G : h.Ns mainGlobals mg) (z : He.SaysD fa fn p.K) (B : Blt mg) (C : Cns mg p) (o : PmOk p) (hBe : p.B = LmB) (eM : Cls p.K p.CP ∧ Meth p.K p.CP "put_at" (He.fAd p.K d_Pieces_put_at.at_)) (k_Pieces : C8.Mak p.P p.w p.K mg base 6 "Pieces" p.CP (sp_Pieces_init p) []) (m_Pieces_told : C8.Met p.P p.w p.K mg base 1 p.CP "told" (sp_Pieces_told p) []) : C8.Met p.P p.w p.K mg base 8 p.CP "put_at" (sp_Pieces_put_at p) [] := by
  obtain ⟨fd, F⟩ := z.def_ 67 (d := d_Pieces_put_at) rfl
  have ok : FnOk p.P p.w p.K mg base C8.CX0 8 (He.fAd p.K d_Pieces_put_at.at_) fd ["self", "name", "row"] (sp_Pieces_put_at p) :=
    F.ok sc_Pieces_put_at (fun vs H Q E h => by obtain ⟨R, ⟨b0, b1, b2, b3, b4, ev, _⟩, _⟩ := h; rw [ev]; rfl) fun cdv A outer s H vs Q E hr h => ⟨t_Pieces_put_at p, PSs.nox (wk_Pieces_put_at k_Pieces m_Pieces_told hr), rd_Pieces_put_at p o vs H Q E h⟩
  exact ⟨_, fd, _, [], eM.1, eM.2, ok, (F.bindsN fun _ _ _ _ _ _ us hl => match us, hl with | [_, _, _], _ => rfl), .nil⟩
theorem met_Pieces_with_last (X : p.K.In h) (G : h.Ns mainGlobals mg) (z : He.SaysD fa fn p.K) (B : Blt mg) (C : Cns mg p) (o : PmOk p) (hBe : p.B = LmB) (eM : Cls p.K p.CP ∧ Meth p.K p.CP "with_last" (He.fAd p.K d_Pieces_with_last.at_)) (m_Pieces_row : C8.Met p.P p.w p.K mg base 2 p.CP "row" (sp_Pieces_row p) []) (m_Pieces_put_at : C8.Met p.P p.w p.K mg base 8 p.CP "put_at" (sp_Pieces_put_at p) []) : C8.Met p.P p.w p.K mg base 9 p.CP "with_last" (sp_Pieces_with_last p) [] := by
  obtain ⟨fd, F⟩ := z.def_ 68 (d := d_Pieces_with_last) rfl
  have ok : FnOk p.P p.w p.K mg base C8.CX0 9 (He.fAd p.K d_Pieces_with_last.at_) fd ["self", "name", "last"] (sp_Pieces_with_last p) :=
    F.ok sc_Pieces_with_last (fun vs H Q E h => by obtain ⟨R, ⟨b0, b1, b2, b3, ev, _⟩, _⟩ := h; rw [ev]; rfl) fun cdv A outer s H vs Q E hr h => ⟨t_Pieces_with_last p, PSs.nox (wk_Pieces_with_last m_Pieces_row m_Pieces_put_at hr), rd_Pieces_with_last p o vs H Q E h⟩
  exact ⟨_, fd, _, [], eM.1, eM.2, ok, (F.bindsN fun _ _ _ _ _ _ us hl => match us, hl with | [_, _, _], _ => rfl), .nil⟩
theorem cal_rows_within (X : p.K.In h) (G : h.Ns mainGlobals mg) (z : He.SaysD fa fn p.K) (B : Blt mg) (C : Cns mg p) (o : PmOk p) (hBe : p.B = LmB) (c_need_stretch : C8.Cal p.P p.w p.K mg base 4 "need_stretch" (sp_need_stretch p) []) (m_Pieces_told : C8.Met p.P p.w p.K mg base 1 p.CP "told" (sp_Pieces_told p) []) : C8.Cal p.P p.w p.K mg base 5 "rows_within" (sp_rows_within p) [] := by
  obtain ⟨fd, F⟩ := z.def_ 18 (d := d_rows_within) rfl
  have ok : FnOk p.P p.w p.K mg base C8.CX0 5 (He.fAd p.K d_rows_within.at_) fd ["pieces", "stretch"] (sp_rows_within p) :=
    F.ok sc_rows_within (fun vs H Q E h => by obtain ⟨R, ⟨b0, b1, b2, b3, ev, _⟩, _⟩ := h; rw [ev]; rfl) fun cdv A outer s H vs Q E hr h => ⟨t_rows_within p, PSs.nox (wk_rows_within c_need_stretch m_Pieces_told hr), rd_rows_within p vs H Q E h⟩
  exact ⟨_, fd, _, [], ok, (He.glo_ok X G (z.fact 11 (f := .glo "rows_within") rfl)), F.kp, (F.bindsN fun _ _ _ _ _ _ us hl => match us, hl with | [_, _], _ => rfl), .nil⟩
theorem cal_lefts (X : p.K.In h) (G : h.Ns mainGlobals mg) (z : He.SaysD fa fn p.K) (B : Blt mg) (C : Cns mg p) (o : PmOk p) (hBe : p.B = LmB) (c_rows_within : C8.Cal p.P p.w p.K mg base 5 "rows_within" (sp_rows_within p) []) : C8.Cal p.P p.w p.K mg base 6 "lefts" (sp_lefts p) [] := by
  obtain ⟨fd, F⟩ := z.def_ 20 (d := d_lefts) rfl
  have ok : FnOk p.P p.w p.K mg base C8.CX0 6 (He.fAd p.K d_lefts.at_) fd ["pieces", "stretch"] (sp_lefts p) :=
    F.ok sc_lefts (fun vs H Q E h => by obtain ⟨R, ⟨b0, b1, b2, b3, ev, _⟩, _⟩ := h; rw [ev]; rfl) fun cdv A outer s H vs Q E hr h => ⟨t_lefts p, PSs.nox (wk_lefts B c_rows_within hr), rd_lefts p vs H Q E h⟩
  exact ⟨_, fd, _, [], ok, (He.glo_ok X G (z.fact 13 (f := .glo "lefts") rfl)), F.kp, (F.bindsN fun _ _ _ _ _ _ us hl => match us, hl with | [_, _], _ => rfl), .nil⟩
theorem cal_greatest_length (X : p.K.In h) (G : h.Ns mainGlobals mg) (z : He.SaysD fa fn p.K) (B : Blt mg) (C : Cns mg p) (o : PmOk p) (hBe : p.B = LmB) (c_rows_within : C8.Cal p.P p.w p.K mg base 5 "rows_within" (sp_rows_within p) []) : C8.Cal p.P p.w p.K mg base 6 "greatest_length" (sp_greatest_length p) [] := by
  obtain ⟨fd, F⟩ := z.def_ 21 (d := d_greatest_length) rfl
  have ok : FnOk p.P p.w p.K mg base C8.CX0 6 (He.fAd p.K d_greatest_length.at_) fd ["pieces", "stretch"] (sp_greatest_length p) :=
    F.ok sc_greatest_length (fun vs H Q E h => by obtain ⟨R, ⟨b0, b1, b2, b3, ev, _⟩, _⟩ := h; rw [ev]; rfl) fun cdv A outer s H vs Q E hr h => ⟨t_greatest_length p, PSs.nox (wk_greatest_length B c_rows_within hr), rd_greatest_length p vs H Q E h⟩
  exact ⟨_, fd, _, [], ok, (He.glo_ok X G (z.fact 14 (f := .glo "greatest_length") rfl)), F.kp, (F.bindsN fun _ _ _ _ _ _ us hl => match us, hl with | [_, _], _ => rfl), .nil⟩
theorem cal_longest (X : p.K.In h) (G : h.Ns mainGlobals mg) (z : He.SaysD fa fn p.K) (B : Blt mg) (C : Cns mg p) (o : PmOk p) (hBe : p.B = LmB) (c_greatest_length : C8.Cal p.P p.w p.K mg base 6 "greatest_length" (sp_greatest_length p) []) (c_rows_within : C8.Cal p.P p.w p.K mg base 5 "rows_within" (sp_rows_within p) []) : C8.Cal p.P p.w p.K mg base 7 "longest" (sp_longest p) [] := by
  obtain ⟨fd, F⟩ := z.def_ 22 (d := d_longest) rfl
  have ok : FnOk p.P p.w p.K mg base C8.CX0 7 (He.fAd p.K d_longest.at_) fd ["pieces", "stretch"] (sp_longest p) :=
    F.ok sc_longest (fun vs H Q E h => by obtain ⟨R, ⟨b0, b1, b2, b3, ev, _⟩, _⟩ := h; rw [ev]; rfl) fun cdv A outer s H vs Q E hr h => ⟨t_longest p, PSs.nox (wk_longest c_greatest_length c_rows_within hr), rd_longest p vs H Q E h⟩
  exact ⟨_, fd, _, [], ok, (He.glo_ok X G (z.fact 15 (f := .glo "longest") rfl)), F.kp, (F.bindsN fun _ _ _ _ _ _ us hl => match us, hl with | [_, _], _ => rfl), .nil⟩
theorem cal_need (X : p.K.In h) (G : h.Ns mainGlobals mg) (z : He.SaysD fa fn p.K) (B : Blt mg) (C : Cns mg p) (o : PmOk p) (hBe : p.B = LmB) (c_need_stretch : C8.Cal p.P p.w p.K mg base 4 "need_stretch" (sp_need_stretch p) []) (c_need_failings : C8.Cal p.P p.w p.K mg base 3 "need_failings" (sp_need_failings p) []) (c_lefts : C8.Cal p.P p.w p.K mg base 6 "lefts" (sp_lefts p) []) (c_greatest_length : C8.Cal p.P p.w p.K mg base 6 "greatest_length" (sp_greatest_length p) []) : C8.Cal p.P p.w p.K mg base 7 "need" (sp_need p) [] := by
  obtain ⟨fd, F⟩ := z.def_ 23 (d := d_need) rfl
  have ok : FnOk p.P p.w p.K mg base C8.CX0 7 (He.fAd p.K d_need.at_) fd ["pieces", "stretch", "failings"] (sp_need p) :=
    F.ok sc_need (fun vs H Q E h => by obtain ⟨R, ⟨b0, b1, b2, b3, b4, ev, _⟩, _⟩ := h; rw [ev]; rfl) fun cdv A outer s H vs Q E hr h => ⟨t_need p, PSs.nox (wk_need c_need_stretch c_need_failings c_lefts c_greatest_length hr), rd_need p vs H Q E h⟩
  exact ⟨_, fd, _, [], ok, (He.glo_ok X G (z.fact 16 (f := .glo "need") rfl)), F.kp, (F.bindsN fun _ _ _ _ _ _ us hl => match us, hl with | [_, _, _], _ => rfl), .nil⟩
theorem cal_stretches (X : p.K.In h) (G : h.Ns mainGlobals mg) (z : He.SaysD fa fn p.K) (B : Blt mg) (C : Cns mg p) (o : PmOk p) (hBe : p.B = LmB) (m_Pieces_told : C8.Met p.P p.w p.K mg base 1 p.CP "told" (sp_Pieces_told p) []) (c_rows_within : C8.Cal p.P p.w p.K mg base 5 "rows_within" (sp_rows_within p) []) : C8.Cal p.P p.w p.K mg base 6 "stretches" (sp_stretches p) [] := by
  obtain ⟨fd, F⟩ := z.def_ 25 (d := d_stretches) rfl
  have ok : FnOk p.P p.w p.K mg base C8.CX0 6 (He.fAd p.K d_stretches.at_) fd ["pieces"] (sp_stretches p) :=
    F.ok sc_stretches (fun vs H Q E h => by obtain ⟨R, ⟨b0, b1, ev, _⟩, _⟩ := h; rw [ev]; rfl) fun cdv A outer s H vs Q E hr h => ⟨t_stretches p, PSs.nox (wk_stretches B m_Pieces_told c_rows_within hr), rd_stretches p vs H Q E h⟩
  exact ⟨_, fd, _, [], ok, (He.glo_ok X G (z.fact 18 (f := .glo "stretches") rfl)), F.kp, (F.bindsN fun _ _ _ _ _ _ us hl => match us, hl with | [_], _ => rfl), .nil⟩
theorem cal_table (X : p.K.In h) (G : h.Ns mainGlobals mg) (z : He.SaysD fa fn p.K) (B : Blt mg) (C : Cns mg p) (o : PmOk p) (hBe : p.B = LmB) (c_need_failings : C8.Cal p.P p.w p.K mg base 3 "need_failings" (sp_need_failings p) []) (c_stretches : C8.Cal p.P p.w p.K mg base 6 "stretches" (sp_stretches p) []) (c_room : C8.Cal p.P p.w p.K mg base 5 "room" (sp_room p) []) (c_need : C8.Cal p.P p.w p.K mg base 7 "need" (sp_need p) []) : C8.Cal p.P p.w p.K mg base 8 "table" (sp_table p) [] := by
  obtain ⟨fd, F⟩ := z.def_ 26 (d := d_table) rfl
  have ok : FnOk p.P p.w p.K mg base C8.CX0 8 (He.fAd p.K d_table.at_) fd ["pieces", "failings"] (sp_table p) :=
    F.ok sc_table (fun vs H Q E h => by obtain ⟨R, ⟨b0, b1, b2, ev, _⟩, _⟩ := h; rw [ev]; rfl) fun cdv A outer s H vs Q E hr h => ⟨t_table p, PSs.nox (wk_table c_need_failings c_stretches c_room c_need hr), rd_table p vs H Q E h⟩
  exact ⟨_, fd, _, [], ok, (He.glo_ok X G (z.fact 19 (f := .glo "table") rfl)), F.kp, (F.bindsN fun _ _ _ _ _ _ us hl => match us, hl with | [_, _], _ => rfl), .nil⟩
theorem cal_too_short (X : p.K.In h) (G : h.Ns mainGlobals mg) (z : He.SaysD fa fn p.K) (B : Blt mg) (C : Cns mg p) (o : PmOk p) (hBe : p.B = LmB) (c_table : C8.Cal p.P p.w p.K mg base 8 "table" (sp_table p) []) : C8.Cal p.P p.w p.K mg base 9 "too_short" (sp_too_short p) [] := by
  obtain ⟨fd, F⟩ := z.def_ 27 (d := d_too_short) rfl
  have ok : FnOk p.P p.w p.K mg base C8.CX0 9 (He.fAd p.K d_too_short.at_) fd ["pieces", "failings"] (sp_too_short p) :=
    F.ok sc_too_short (fun vs H Q E h => by obtain ⟨R, ⟨b0, b1, b2, ev, _⟩, _⟩ := h; rw [ev]; rfl) fun cdv A outer s H vs Q E hr h => ⟨t_too_short p, PSs.nox (wk_too_short c_table hr), rd_too_short p vs H Q E h⟩
  exact ⟨_, fd, _, [], ok, (He.glo_ok X G (z.fact 20 (f := .glo "too_short") rfl)), F.kp, (F.bindsN fun _ _ _ _ _ _ us hl => match us, hl with | [_, _], _ => rfl), .nil⟩
theorem cal_is_kept (X : p.K.In h) (G : h.Ns mainGlobals mg) (z : He.SaysD fa fn p.K) (B : Blt mg) (C : Cns mg p) (o : PmOk p) (hBe : p.B = LmB) (c_too_short : C8.Cal p.P p.w p.K mg base 9 "too_short" (sp_too_short p) []) : C8.Cal p.P p.w p.K mg base 10 "is_kept" (sp_is_kept p) [] := by
  obtain ⟨fd, F⟩ := z.def_ 28 (d := d_is_kept) rfl
  have ok : FnOk p.P p.w p.K mg base C8.CX0 10 (He.fAd p.K d_is_kept.at_) fd ["pieces", "failings"] (sp_is_kept p) :=
    F.ok sc_is_kept (fun vs H Q E h => by obtain ⟨R, ⟨b0, b1, b2, ev, _⟩, _⟩ := h; rw [ev]; rfl) fun cdv A outer s H vs Q E hr h => ⟨t_is_kept p, PSs.nox (wk_is_kept c_too_short hr), rd_is_kept p vs H Q E h⟩
  exact ⟨_, fd, _, [], ok, (He.glo_ok X G (z.fact 21 (f := .glo "is_kept") rfl)), F.kp, (F.bindsN fun _ _ _ _ _ _ us hl => match us, hl with | [_, _], _ => rfl), .nil⟩
theorem mak_Kept (X : p.K.In h) (G : h.Ns mainGlobals mg) (z : He.SaysD fa fn p.K) (B : Blt mg) (C : Cns mg p) (o : PmOk p) (hBe : p.B = LmB) (eK : p.CK = He.ga p.K "Kept" ∧ Mk p.K p.CK (He.fAd p.K d_Kept_init.at_) ∧ mg "Kept" = some (.ref p.CK)) (c_need_failings : C8.Cal p.P p.w p.K mg base 3 "need_failings" (sp_need_failings p) []) : C8.Mak p.P p.w p.K mg base 4 "Kept" p.CK (sp_Kept_init p) [] := by
  obtain ⟨fd, F⟩ := z.def_ 84 (d := d_Kept_init) rfl
  have ok : FnOk p.P p.w p.K mg base C8.CX0 4 (He.fAd p.K d_Kept_init.at_) fd ["self", "pieces", "failings"] (sp_Kept_init p) :=
    F.ok sc_Paper_init (fun vs H Q E h => by obtain ⟨x, dx, as, R, ev, _, ⟨b0, b1, b2, ea, _⟩, _⟩ := h; rw [ev, ea]; rfl) fun cdv A outer s H vs Q E hr h => ⟨t_Paper_init p, PSs.nox (wk_Paper_init c_need_failings hr), rd_Kept_init p o vs H Q E h⟩
  exact ⟨_, fd, _, [], eK.2.1, ok, eK.2.2, (F.bindsN fun _ _ _ _ _ _ us hl => match us, hl with | [_, _, _], _ => rfl), .nil⟩
theorem pap_x (X : p.K.In h) (G : h.Ns mainGlobals mg) (z : He.SaysD fa fn p.K) (B : Blt mg) (C : Cns mg p) (o : PmOk p) (hBe : p.B = LmB) (eP : ClX.CRead p.K p.CA (.type "type") ∧ ClX.CVal p.K p.CA (.type "type") "__init__" (.ref (He.fAd p.K d_Paper_init.at_)) (.ref (He.fAd p.K d_Paper_init.at_))) (c_need_failings : C8.Cal p.P p.w p.K mg base 3 "need_failings" (sp_need_failings p) []) : PapX p mg base 4 := by
  obtain ⟨fd, F⟩ := z.def_ 29 (d := d_Paper_init) rfl
  have ok : FnOk p.P p.w p.K mg base C8.CX0 4 (He.fAd p.K d_Paper_init.at_) fd ["self", "pieces", "failings"] (sp_Paper_init p) :=
    F.ok sc_Paper_init (fun vs H Q E h => by obtain ⟨b0, b1, b2, b3, b4, ev, _⟩ := h; rw [ev]; rfl) fun cdv A outer s H vs Q E hr h => ⟨t_Paper_init p, PSs.nox (wk_Paper_init c_need_failings hr), rd_Paper_init p o vs H Q E h⟩
  exact ⟨_, fd, _, _, eP.1, eP.2, ok, F.kp, (F.bindsN fun _ _ _ _ _ _ us hl => match us, hl with | [_, _, _], _ => rfl)⟩
theorem met_Paper_failings (X : p.K.In h) (G : h.Ns mainGlobals mg) (z : He.SaysD fa fn p.K) (B : Blt mg) (C : Cns mg p) (o : PmOk p) (hBe : p.B = LmB) (eM : Cls p.K p.CK ∧ Meth p.K p.CK "failings" (He.fAd p.K d_Kept_failings.at_)) : C8.Met p.P p.w p.K mg base 1 p.CK "failings" (sp_Paper_failings p) [] := by
  obtain ⟨fd, F⟩ := z.def_ 85 (d := d_Kept_failings) rfl
  have ok : FnOk p.P p.w p.K mg base C8.CX0 1 (He.fAd p.K d_Kept_failings.at_) fd ["self"] (sp_Paper_failings p) :=
    F.ok sc_Paper_failings (fun vs H Q E h => by obtain ⟨R, ⟨b0, b1, ev, _⟩, _⟩ := h; rw [ev]; rfl) fun cdv A outer s H vs Q E hr h => ⟨t_Paper_failings p, PSs.nox (wk_Paper_failings hr), rd_Paper_failings p o vs H Q E h⟩
  exact ⟨_, fd, _, [], eM.1, eM.2, ok, (F.bindsN fun _ _ _ _ _ _ us hl => match us, hl with | [_], _ => rfl), .nil⟩
theorem met_Kept_word (X : p.K.In h) (G : h.Ns mainGlobals mg) (z : He.SaysD fa fn p.K) (B : Blt mg) (C : Cns mg p) (o : PmOk p) (hBe : p.B = LmB) (eM : Cls p.K p.CK ∧ Meth p.K p.CK "word" (He.fAd p.K d_Kept_word.at_)) : C8.Met p.P p.w p.K mg base 1 p.CK "word" (sp_Kept_word p) [] := by
  obtain ⟨fd, F⟩ := z.def_ 34 (d := d_Kept_word) rfl
  have ok : FnOk p.P p.w p.K mg base C8.CX0 1 (He.fAd p.K d_Kept_word.at_) fd ["self"] (sp_Kept_word p) :=
    F.ok sc_Kept_word (fun vs H Q E h => by obtain ⟨R, ⟨b0, b1, ev, _⟩, _⟩ := h; rw [ev]; rfl) fun cdv A outer s H vs Q E hr h => ⟨t_Kept_word p, PSs.nox (wk_Kept_word hr), rd_Kept_word p vs H Q E h⟩
  exact ⟨_, fd, _, [], eM.1, eM.2, ok, (F.bindsN fun _ _ _ _ _ _ us hl => match us, hl with | [_], _ => rfl), .nil⟩
theorem met_Kept_holds (X : p.K.In h) (G : h.Ns mainGlobals mg) (z : He.SaysD fa fn p.K) (B : Blt mg) (C : Cns mg p) (o : PmOk p) (hBe : p.B = LmB) (eM : Cls p.K p.CK ∧ Meth p.K p.CK "holds" (He.fAd p.K d_Kept_holds.at_)) (c_is_kept : C8.Cal p.P p.w p.K mg base 10 "is_kept" (sp_is_kept p) []) : C8.Met p.P p.w p.K mg base 11 p.CK "holds" (sp_Kept_holds p) [] := by
  obtain ⟨fd, F⟩ := z.def_ 35 (d := d_Kept_holds) rfl
  have ok : FnOk p.P p.w p.K mg base C8.CX0 11 (He.fAd p.K d_Kept_holds.at_) fd ["self"] (sp_Kept_holds p) :=
    F.ok sc_Kept_holds (fun vs H Q E h => by obtain ⟨R, ⟨b0, b1, ev, _⟩, _⟩ := h; rw [ev]; rfl) fun cdv A outer s H vs Q E hr h => ⟨t_Kept_holds p, PSs.nox (wk_Kept_holds c_is_kept hr), rd_Kept_holds p o vs H Q E h⟩
  exact ⟨_, fd, _, [], eM.1, eM.2, ok, (F.bindsN fun _ _ _ _ _ _ us hl => match us, hl with | [_], _ => rfl), .nil⟩
theorem cal_quotient (X : p.K.In h) (G : h.Ns mainGlobals mg) (z : He.SaysD fa fn p.K) (B : Blt mg) (C : Cns mg p) (o : PmOk p) (hBe : p.B = LmB) (c_room : C8.Cal p.P p.w p.K mg base 5 "room" (sp_room p) []) (c_lefts : C8.Cal p.P p.w p.K mg base 6 "lefts" (sp_lefts p) []) : C8.Cal p.P p.w p.K mg base 7 "quotient" (sp_quotient p) [] := by
  obtain ⟨fd, F⟩ := z.def_ 47 (d := d_quotient) rfl
  have ok : FnOk p.P p.w p.K mg base C8.CX0 7 (He.fAd p.K d_quotient.at_) fd ["pieces", "stretch", "length"] (sp_quotient p) :=
    F.ok sc_quotient (fun vs H Q E h => by obtain ⟨R, ⟨b0, b1, b2, b3, ev, _⟩, _⟩ := h; rw [ev]; rfl) fun cdv A outer s H vs Q E hr h => ⟨t_quotient p, PSs.nox (wk_quotient B c_room c_lefts hr), rd_quotient p vs H Q E h⟩
  exact ⟨_, fd, _, [], ok, (He.glo_ok X G (z.fact 23 (f := .glo "quotient") rfl)), F.kp, (F.bindsN fun _ _ _ _ _ _ us hl => match us, hl with | [_, _, _], _ => rfl), .nil⟩
theorem cal_length_of (X : p.K.In h) (G : h.Ns mainGlobals mg) (z : He.SaysD fa fn p.K) (B : Blt mg) (C : Cns mg p) (o : PmOk p) (hBe : p.B = LmB) (m_Pieces_row : C8.Met p.P p.w p.K mg base 2 p.CP "row" (sp_Pieces_row p) []) : C8.Cal p.P p.w p.K mg base 3 "length_of" (sp_length_of p) [] := by
  obtain ⟨fd, F⟩ := z.def_ 48 (d := d_length_of) rfl
  have ok : FnOk p.P p.w p.K mg base C8.CX0 3 (He.fAd p.K d_length_of.at_) fd ["pieces", "name"] (sp_length_of p) :=
    F.ok sc_length_of (fun vs H Q E h => by obtain ⟨R, ⟨b0, b1, b2, ev, _⟩, _⟩ := h; rw [ev]; rfl) fun cdv A outer s H vs Q E hr h => ⟨t_length_of p, PSs.nox (wk_length_of m_Pieces_row hr), rd_length_of p vs H Q E h⟩
  exact ⟨_, fd, _, [], ok, (He.glo_ok X G (z.fact 24 (f := .glo "length_of") rfl)), F.kp, (F.bindsN fun _ _ _ _ _ _ us hl => match us, hl with | [_, _], _ => rfl), .nil⟩
theorem cal_borne (X : p.K.In h) (G : h.Ns mainGlobals mg) (z : He.SaysD fa fn p.K) (B : Blt mg) (C : Cns mg p) (o : PmOk p) (hBe : p.B = LmB) (m_Pieces_names : C8.Met p.P p.w p.K mg base 1 p.CP "names" (sp_Pieces_names p) []) (c_stretches : C8.Cal p.P p.w p.K mg base 6 "stretches" (sp_stretches p) []) (c_quotient : C8.Cal p.P p.w p.K mg base 7 "quotient" (sp_quotient p) []) (c_length_of : C8.Cal p.P p.w p.K mg base 3 "length_of" (sp_length_of p) []) (c_longest_stretches : C8.Cal p.P p.w p.K mg base 7 "longest_stretches" (sp_longest p) []) : C8.Cal p.P p.w p.K mg base 8 "borne" (sp_borne p) [] := by
  obtain ⟨fd, F⟩ := z.def_ 49 (d := d_borne) rfl
  have ok : FnOk p.P p.w p.K mg base C8.CX0 8 (He.fAd p.K d_borne.at_) fd ["pieces"] (sp_borne p) :=
    F.ok sc_borne (fun vs H Q E h => by obtain ⟨R, ⟨b0, b1, ev, _⟩, _⟩ := h; rw [ev]; rfl) fun cdv A outer s H vs Q E hr h => ⟨t_borne p, PSs.nox (wk_borne B m_Pieces_names c_stretches c_quotient c_length_of c_longest_stretches hr), rd_borne p vs H Q E h⟩
  exact ⟨_, fd, _, [], ok, (He.glo_ok X G (z.fact 25 (f := .glo "borne") rfl)), F.kp, (F.bindsN fun _ _ _ _ _ _ us hl => match us, hl with | [_], _ => rfl), .nil⟩
theorem cal_refused_with (X : p.K.In h) (G : h.Ns mainGlobals mg) (z : He.SaysD fa fn p.K) (B : Blt mg) (C : Cns mg p) (o : PmOk p) (hBe : p.B = LmB) (m_Pieces_with_row : C8.Met p.P p.w p.K mg base 8 p.CP "with_row" (sp_Pieces_with_row p) []) (c_is_kept : C8.Cal p.P p.w p.K mg base 10 "is_kept" (sp_is_kept p) []) : C8.Cal p.P p.w p.K mg base 11 "refused_with" (sp_refused_with p) [] := by
  obtain ⟨fd, F⟩ := z.def_ 50 (d := d_refused_with) rfl
  have ok : FnOk p.P p.w p.K mg base C8.CX0 11 (He.fAd p.K d_refused_with.at_) fd ["pieces", "failings", "row"] (sp_refused_with p) :=
    F.ok sc_refused_with (fun vs H Q E h => by obtain ⟨R, ⟨rs, k, r, ⟨v, y, ev, _⟩, _⟩, _⟩ := h; rw [ev]; rfl) fun cdv A outer s H vs Q E hr h => ⟨t_refused_with p, PSs.nox (wk_refused_with m_Pieces_with_row c_is_kept hr), rd_refused_with p vs H Q E h⟩
  exact ⟨_, fd, _, [], ok, (He.glo_ok X G (z.fact 26 (f := .glo "refused_with") rfl)), F.kp, (F.bindsN fun _ _ _ _ _ _ us hl => match us, hl with | [_, _, _], _ => rfl), .nil⟩
theorem cal_is_counts (X : p.K.In h) (G : h.Ns mainGlobals mg) (z : He.SaysD fa fn p.K) (B : Blt mg) (C : Cns mg p) (o : PmOk p) (hBe : p.B = LmB) (m_Pieces_has : C8.Met p.P p.w p.K mg base 1 p.CP "has" (sp_Pieces_has p) []) (c_is_within : C8.Cal p.P p.w p.K mg base 2 "is_within" (sp_is_within p) []) : C8.Cal p.P p.w p.K mg base 3 "is_counts" (sp_is_counts p) [] := by
  obtain ⟨fd, F⟩ := z.def_ 3 (d := d_is_counts) rfl
  have ok : FnOk p.P p.w p.K mg base C8.CX0 3 (He.fAd p.K d_is_counts.at_) fd ["pieces", "thing"] (sp_is_counts p) :=
    F.ok sc_is_counts (fun vs H Q E h => by obtain ⟨R, ⟨b0, b1, ev, _⟩, _⟩ := h; rw [ev]; rfl) fun cdv A outer s H vs Q E hr h => ⟨t_is_counts p, PSs.nox (wk_is_counts B C m_Pieces_has c_is_within hr), rd_is_counts p vs H Q E h⟩
  exact ⟨_, fd, _, [], ok, (He.glo_ok X G (z.fact 3 (f := .glo "is_counts") rfl)), F.kp, (F.bindsN fun _ _ _ _ _ _ us hl => match us, hl with | [_, _], _ => rfl), .nil⟩
theorem cal_need_counts (X : p.K.In h) (G : h.Ns mainGlobals mg) (z : He.SaysD fa fn p.K) (B : Blt mg) (C : Cns mg p) (o : PmOk p) (hBe : p.B = LmB) (c_is_counts : C8.Cal p.P p.w p.K mg base 3 "is_counts" (sp_is_counts p) []) : C8.Cal p.P p.w p.K mg base 4 "need_counts" (sp_need_counts p) [] := by
  obtain ⟨fd, F⟩ := z.def_ 4 (d := d_need_counts) rfl
  have ok : FnOk p.P p.w p.K mg base C8.CX0 4 (He.fAd p.K d_need_counts.at_) fd ["pieces", "counts"] (sp_need_counts p) :=
    F.ok sc_need_counts (fun vs H Q E h => by obtain ⟨R, ⟨b0, b1, ev, _⟩, _⟩ := h; rw [ev]; rfl) fun cdv A outer s H vs Q E hr h => ⟨t_need_counts p, PSs.nox (wk_need_counts c_is_counts hr), rd_need_counts p vs H Q E h⟩
  exact ⟨_, fd, _, [], ok, (He.glo_ok X G (z.fact 4 (f := .glo "need_counts") rfl)), F.kp, (F.bindsN fun _ _ _ _ _ _ us hl => match us, hl with | [_, _], _ => rfl), .nil⟩
theorem met_Run_end_try (X : p.K.In h) (G : h.Ns mainGlobals mg) (z : He.SaysD fa fn p.K) (B : Blt mg) (C : Cns mg p) (o : PmOk p) (hBe : p.B = LmB) (eM : Cls p.K p.CR ∧ Meth p.K p.CR "end_try" (He.fAd p.K d_Run_end_try.at_)) (l_fails : ∀ cl c, LOk p.P p.w p.K mg base 1 (p.B.L.F cl c) p.B.b p.B.ps p.B.fr p.B.sp) : C8.Met p.P p.w p.K mg base 2 p.CR "end_try" (sp_Run_end_try p) [] := by
  obtain ⟨fd, F⟩ := z.def_ 6 (d := d_Run_end_try) rfl
  have ok : FnOk p.P p.w p.K mg base C8.CX0 2 (He.fAd p.K d_Run_end_try.at_) fd ["self", "name", "length", "turn", "fails"] (sp_Run_end_try p) :=
    F.ok sc_Run_end_try (fun vs H Q E h => by obtain ⟨b0, b1, b2, b3, b4, b5, b6, b7, b8, ev, _⟩ := h; rw [ev]; rfl) fun cdv A outer s H vs Q E hr h => ⟨t_Run_end_try p, PSs.nox (wk_Run_end_try l_fails hr), rd_Run_end_try p o (by rw [hBe]; rfl) vs H Q E h⟩
  exact ⟨_, fd, _, [], eM.1, eM.2, ok, (F.bindsN fun _ _ _ _ _ _ us hl => match us, hl with | [_, _, _, _, _], _ => rfl), .nil⟩
theorem met_Run_end_empty (X : p.K.In h) (G : h.Ns mainGlobals mg) (z : He.SaysD fa fn p.K) (B : Blt mg) (C : Cns mg p) (o : PmOk p) (hBe : p.B = LmB) (eM : Cls p.K p.CR ∧ Meth p.K p.CR "end_empty" (He.fAd p.K d_Run_end_empty.at_)) (m_Pieces_told : C8.Met p.P p.w p.K mg base 1 p.CP "told" (sp_Pieces_told p) []) (m_Run_end_try : C8.Met p.P p.w p.K mg base 2 p.CR "end_try" (sp_Run_end_try p) []) : C8.Met p.P p.w p.K mg base 3 p.CR "end_empty" (sp_Run_end_empty p) [] := by
  obtain ⟨fd, F⟩ := z.def_ 7 (d := d_Run_end_empty) rfl
  have ok : FnOk p.P p.w p.K mg base C8.CX0 3 (He.fAd p.K d_Run_end_empty.at_) fd ["self", "turn", "fails"] (sp_Run_end_empty p) :=
    F.ok sc_Run_end_empty (fun vs H Q E h => by obtain ⟨b0, b1, b2, b3, b4, b5, b6, ev, _⟩ := h; rw [ev]; rfl) fun cdv A outer s H vs Q E hr h => ⟨t_Run_end_empty p, PSs.nox (wk_Run_end_empty m_Pieces_told m_Run_end_try hr), rd_Run_end_empty p o vs H Q E h⟩
  exact ⟨_, fd, _, [], eM.1, eM.2, ok, (F.bindsN fun _ _ _ _ _ _ us hl => match us, hl with | [_, _, _], _ => rfl), .nil⟩
theorem met_Run_rests (X : p.K.In h) (G : h.Ns mainGlobals mg) (z : He.SaysD fa fn p.K) (B : Blt mg) (C : Cns mg p) (o : PmOk p) (hBe : p.B = LmB) (eM : Cls p.K p.CR ∧ Meth p.K p.CR "rests" (He.fAd p.K d_Run_rests.at_)) : C8.Met p.P p.w p.K mg base 1 p.CR "rests" (sp_Run_rests p) [] := by
  obtain ⟨fd, F⟩ := z.def_ 8 (d := d_Run_rests) rfl
  have ok : FnOk p.P p.w p.K mg base C8.CX0 1 (He.fAd p.K d_Run_rests.at_) fd ["self", "turn"] (sp_Run_rests p) :=
    F.ok sc_Run_rests (fun vs H Q E h => by obtain ⟨R, ⟨b0, b1, ev, _⟩, _⟩ := h; rw [ev]; rfl) fun cdv A outer s H vs Q E hr h => ⟨t_Run_rests p, PSs.nox (wk_Run_rests hr), rd_Run_rests p vs H Q E h⟩
  exact ⟨_, fd, _, [], eM.1, eM.2, ok, (F.bindsN fun _ _ _ _ _ _ us hl => match us, hl with | [_, _], _ => rfl), .nil⟩
theorem met_Run_work_on (X : p.K.In h) (G : h.Ns mainGlobals mg) (z : He.SaysD fa fn p.K) (B : Blt mg) (C : Cns mg p) (o : PmOk p) (hBe : p.B = LmB) (eM : Cls p.K p.CR ∧ Meth p.K p.CR "work_on" (He.fAd p.K d_Run_work_on.at_)) (m_Pieces_told : C8.Met p.P p.w p.K mg base 1 p.CP "told" (sp_Pieces_told p) []) (m_Run_rests : C8.Met p.P p.w p.K mg base 1 p.CR "rests" (sp_Run_rests p) []) (m_Run_end_try : C8.Met p.P p.w p.K mg base 2 p.CR "end_try" (sp_Run_end_try p) []) : C8.Met p.P p.w p.K mg base 3 p.CR "work_on" (sp_Run_work_on p) [] := by
  obtain ⟨fd, F⟩ := z.def_ 9 (d := d_Run_work_on) rfl
  have ok : FnOk p.P p.w p.K mg base C8.CX0 3 (He.fAd p.K d_Run_work_on.at_) fd ["self", "turn", "fails"] (sp_Run_work_on p) :=
    F.ok sc_Run_work_on (fun vs H Q E h => by obtain ⟨b0, b1, b2, b3, b4, b5, b6, ev, _⟩ := h; rw [ev]; rfl) fun cdv A outer s H vs Q E hr h => ⟨t_Run_work_on p, PSs.nox (wk_Run_work_on m_Pieces_told m_Run_rests m_Run_end_try hr), rd_Run_work_on p o vs H Q E h⟩
  exact ⟨_, fd, _, [], eM.1, eM.2, ok, (F.bindsN fun _ _ _ _ _ _ us hl => match us, hl with | [_, _, _], _ => rfl), .nil⟩
theorem mak_Run (X : p.K.In h) (G : h.Ns mainGlobals mg) (z : He.SaysD fa fn p.K) (B : Blt mg) (C : Cns mg p) (o : PmOk p) (hBe : p.B = LmB) (eC : Mk p.K p.CR (He.fAd p.K d_Run_init.at_) ∧ mg "Run" = some (.ref p.CR)) (m_Pieces_told : C8.Met p.P p.w p.K mg base 1 p.CP "told" (sp_Pieces_told p) []) (m_Run_end_empty : C8.Met p.P p.w p.K mg base 3 p.CR "end_empty" (sp_Run_end_empty p) []) (m_Run_work_on : C8.Met p.P p.w p.K mg base 3 p.CR "work_on" (sp_Run_work_on p) []) : C8.Mak p.P p.w p.K mg base 4 "Run" p.CR (sp_Run_init p) [] := by
  obtain ⟨fd, F⟩ := z.def_ 5 (d := d_Run_init) rfl
  have ok : FnOk p.P p.w p.K mg base C8.CX0 4 (He.fAd p.K d_Run_init.at_) fd ["self", "pieces", "fails"] (sp_Run_init p) :=
    F.ok sc_Run_init (fun vs H Q E h => by obtain ⟨x, dx, as, R, ev, _, ⟨b0, b1, b2, b3, b4, ea, _⟩, _⟩ := h; rw [ev, ea]; rfl) fun cdv A outer s H vs Q E hr h => ⟨t_Run_init p, PSs.nox (wk_Run_init B m_Pieces_told m_Run_end_empty m_Run_work_on hr), rd_Run_init p o vs H Q E h⟩
  exact ⟨_, fd, _, [], eC.1, ok, eC.2, (F.bindsN fun _ _ _ _ _ _ us hl => match us, hl with | [_, _, _], _ => rfl), .nil⟩
theorem met_Run_rows (X : p.K.In h) (G : h.Ns mainGlobals mg) (z : He.SaysD fa fn p.K) (B : Blt mg) (C : Cns mg p) (o : PmOk p) (hBe : p.B = LmB) (eM : Cls p.K p.CR ∧ Meth p.K p.CR "rows" (He.fAd p.K d_Run_rows.at_)) : C8.Met p.P p.w p.K mg base 1 p.CR "rows" (sp_Run_rows p) [] := by
  obtain ⟨fd, F⟩ := z.def_ 10 (d := d_Run_rows) rfl
  have ok : FnOk p.P p.w p.K mg base C8.CX0 1 (He.fAd p.K d_Run_rows.at_) fd ["self"] (sp_Run_rows p) :=
    F.ok sc_Run_rows (fun vs H Q E h => by obtain ⟨R, ⟨b0, b1, ev, _⟩, _⟩ := h; rw [ev]; rfl) fun cdv A outer s H vs Q E hr h => ⟨t_Run_rows p, PSs.nox (wk_Run_rows B hr), rd_Run_rows p o vs H Q E h⟩
  exact ⟨_, fd, _, [], eM.1, eM.2, ok, (F.bindsN fun _ _ _ _ _ _ us hl => match us, hl with | [_], _ => rfl), .nil⟩
theorem cal_run (X : p.K.In h) (G : h.Ns mainGlobals mg) (z : He.SaysD fa fn p.K) (B : Blt mg) (C : Cns mg p) (o : PmOk p) (hBe : p.B = LmB) (c_need_counts : C8.Cal p.P p.w p.K mg base 4 "need_counts" (sp_need_counts p) []) (k_Run : C8.Mak p.P p.w p.K mg base 4 "Run" p.CR (sp_Run_init p) []) (c_by_counts : C8.Cal p.P p.w p.K mg base 1 "by_counts" (sp_by_counts p) []) : C8.Cal p.P p.w p.K mg base 6 "run" (sp_run p) [] := by
  obtain ⟨fd, F⟩ := z.def_ 13 (d := d_run) rfl
  have ok : FnOk p.P p.w p.K mg base C8.CX0 6 (He.fAd p.K d_run.at_) fd ["pieces", "counts"] (sp_run p) :=
    F.ok sc_run (fun vs H Q E h => by obtain ⟨b0, b1, b2, ev, _⟩ := h; rw [ev]; rfl) fun cdv A outer s H vs Q E hr h => ⟨t_run p, PSs.nox (wk_run B c_need_counts k_Run c_by_counts hr), rd_run p o (by rw [hBe]; rfl) vs H Q E h⟩
  exact ⟨_, fd, _, [], ok, (He.glo_ok X G (z.fact 6 (f := .glo "run") rfl)), F.kp, (F.bindsN fun _ _ _ _ _ _ us hl => match us, hl with | [_, _], _ => rfl), .nil⟩
theorem met_Kept_order (X : p.K.In h) (G : h.Ns mainGlobals mg) (z : He.SaysD fa fn p.K) (B : Blt mg) (C : Cns mg p) (o : PmOk p) (hBe : p.B = LmB) (eM : Cls p.K p.CK ∧ Meth p.K p.CK "order" (He.fAd p.K d_Kept_order.at_)) (c_run : C8.Cal p.P p.w p.K mg base 6 "run" (sp_run p) []) (m_Run_rows : C8.Met p.P p.w p.K mg base 1 p.CR "rows" (sp_Run_rows p) []) : C8.Met p.P p.w p.K mg base 7 p.CK "order" (sp_Kept_order p) [] := by
  obtain ⟨fd, F⟩ := z.def_ 36 (d := d_Kept_order) rfl
  have ok : FnOk p.P p.w p.K mg base C8.CX0 7 (He.fAd p.K d_Kept_order.at_) fd ["self", "counts"] (sp_Kept_order p) :=
    F.ok sc_Kept_order (fun vs H Q E h => by obtain ⟨b0, b1, b2, ev, _⟩ := h; rw [ev]; rfl) fun cdv A outer s H vs Q E hr h => ⟨t_Kept_order p, PSs.nox (wk_Kept_order B c_run m_Run_rows hr), rd_Kept_order p o vs H Q E h⟩
  exact ⟨_, fd, _, [], eM.1, eM.2, ok, (F.bindsN fun _ _ _ _ _ _ us hl => match us, hl with | [_, _], _ => rfl), .nil⟩
theorem mak_Crowd (X : p.K.In h) (G : h.Ns mainGlobals mg) (z : He.SaysD fa fn p.K) (B : Blt mg) (C : Cns mg p) (o : PmOk p) (hBe : p.B = LmB) (eC : Mk p.K p.CC (He.fAd p.K d_Crowd_init.at_) ∧ mg "Crowd" = some (.ref p.CC)) (x_Paper : PapX p mg base 4) (c_is_stretch : C8.Cal p.P p.w p.K mg base 3 "is_stretch" (sp_is_stretch p) []) : C8.Mak p.P p.w p.K mg base 5 "Crowd" p.CC (sp_Crowd_init p) [] := by
  obtain ⟨fd, F⟩ := z.def_ 37 (d := d_Crowd_init) rfl
  have ok : FnOk p.P p.w p.K mg base C8.CX0 5 (He.fAd p.K d_Crowd_init.at_) fd ["self", "pieces", "failings", "stretch"] (sp_Crowd_init p) :=
    F.ok sc_Crowd_init (fun vs H Q E h => by obtain ⟨x, dx, as, R, ev, _, ⟨b0, b1, b2, b3, ea, _⟩, _⟩ := h; rw [ev, ea]; rfl) fun cdv A outer s H vs Q E hr h => ⟨t_Crowd_init p, PSs.nox (wk_Crowd_init C x_Paper c_is_stretch hr), rd_Crowd_init p o vs H Q E h⟩
  exact ⟨_, fd, _, [], eC.1, ok, eC.2, (F.bindsN fun _ _ _ _ _ _ us hl => match us, hl with | [_, _, _, _], _ => rfl), .nil⟩
theorem cal_paper_of (X : p.K.In h) (G : h.Ns mainGlobals mg) (z : He.SaysD fa fn p.K) (B : Blt mg) (C : Cns mg p) (o : PmOk p) (hBe : p.B = LmB) (c_too_short : C8.Cal p.P p.w p.K mg base 9 "too_short" (sp_too_short p) []) (k_Kept : C8.Mak p.P p.w p.K mg base 4 "Kept" p.CK (sp_Kept_init p) []) (k_Crowd : C8.Mak p.P p.w p.K mg base 5 "Crowd" p.CC (sp_Crowd_init p) []) : C8.Cal p.P p.w p.K mg base 10 "paper_of" (sp_paper_of p) [] := by
  obtain ⟨fd, F⟩ := z.def_ 46 (d := d_paper_of) rfl
  have ok : FnOk p.P p.w p.K mg base C8.CX0 10 (He.fAd p.K d_paper_of.at_) fd ["pieces", "failings"] (sp_paper_of p) :=
    F.ok sc_paper_of (fun vs H Q E h => by obtain ⟨R, ⟨b0, b1, b2, ev, _⟩, _⟩ := h; rw [ev]; rfl) fun cdv A outer s H vs Q E hr h => ⟨t_paper_of p, PSs.nox (wk_paper_of c_too_short k_Kept k_Crowd hr), rd_paper_of p vs H Q E h⟩
  exact ⟨_, fd, _, [], ok, (He.glo_ok X G (z.fact 22 (f := .glo "paper_of") rfl)), F.kp, (F.bindsN fun _ _ _ _ _ _ us hl => match us, hl with | [_, _], _ => rfl), .nil⟩
theorem cal_least_turns {m : Lm} (X : p.K.In h) (G : h.Ns mainGlobals mg) (z : He.SaysD fa fn p.K) (B : Blt mg) (C : Cns mg p) (o : PmOk p) (hBe : p.B = LmB) (c_is_kept : C8.Cal p.P p.w p.K mg base 10 "is_kept" (sp_is_kept p) []) (l_moved : ∀ cl c, LOk p.P p.w p.K mg base 10 (m.L.F cl c) m.b m.ps m.fr m.sp) (c_paper_of : C8.Cal p.P p.w p.K mg base 10 "paper_of" (sp_paper_of p) []) (k_Kept : C8.Mak p.P p.w p.K mg base 4 "Kept" p.CK (sp_Kept_init p) []) : C8.Cal p.P p.w p.K mg base 11 "least_turns" (sp_least_turns p m) [] := by
  obtain ⟨fd, F⟩ := z.def_ 51 (d := d_least_turns) rfl
  have ok : FnOk p.P p.w p.K mg base C8.CX0 11 (He.fAd p.K d_least_turns.at_) fd ["failings", "moved", "most"] (sp_least_turns p m) :=
    F.ok sc_least_turns (fun vs H Q E h => by obtain ⟨b0, b1, b2, b3, b4, b5, ev, _⟩ := h; rw [ev]; rfl) fun cdv A outer s H vs Q E hr h => ⟨t_least_turns p m, PSs.nox (wk_least_turns c_is_kept l_moved c_paper_of k_Kept hr), rd_least_turns p m vs H Q E h⟩
  exact ⟨_, fd, _, [], ok, (He.glo_ok X G (z.fact 27 (f := .glo "least_turns") rfl)), F.kp, (F.bindsN fun _ _ _ _ _ _ us hl => match us, hl with | [_, _, _], _ => rfl), .nil⟩
theorem cal_fewer (X : p.K.In h) (G : h.Ns mainGlobals mg) (z : He.SaysD fa fn p.K) (B : Blt mg) (C : Cns mg p) (o : PmOk p) (hBe : p.B = LmB) (c_need_failings : C8.Cal p.P p.w p.K mg base 3 "need_failings" (sp_need_failings p) []) (c_borne : C8.Cal p.P p.w p.K mg base 8 "borne" (sp_borne p) []) (c_refused_with : C8.Cal p.P p.w p.K mg base 11 "refused_with" (sp_refused_with p) []) : C8.Cal p.P p.w p.K mg base 12 "fewer" (sp_fewer p) [] := by
  obtain ⟨fd, F⟩ := z.def_ 54 (d := d_fewer) rfl
  have ok : FnOk p.P p.w p.K mg base C8.CX0 12 (He.fAd p.K d_fewer.at_) fd ["pieces", "failings", "row"] (sp_fewer p) :=
    F.ok sc_fewer (fun vs H Q E h => by obtain ⟨R, ⟨rs, k, r, ⟨v, y, ev, _⟩, _⟩, _⟩ := h; rw [ev]; rfl) fun cdv A outer s H vs Q E hr h => ⟨t_fewer p, PSs.nox (wk_fewer c_need_failings c_borne c_refused_with hr), rd_fewer p vs H Q E h⟩
  exact ⟨_, fd, _, [], ok, (He.glo_ok X G (z.fact 30 (f := .glo "fewer") rfl)), F.kp, (F.bindsN fun _ _ _ _ _ _ us hl => match us, hl with | [_, _, _], _ => rfl), .nil⟩
theorem cal_instead_of (X : p.K.In h) (G : h.Ns mainGlobals mg) (z : He.SaysD fa fn p.K) (B : Blt mg) (C : Cns mg p) (o : PmOk p) (hBe : p.B = LmB) (c_need_failings : C8.Cal p.P p.w p.K mg base 3 "need_failings" (sp_need_failings p) []) (c_refused_with : C8.Cal p.P p.w p.K mg base 11 "refused_with" (sp_refused_with p) []) (m_Pieces_names : C8.Met p.P p.w p.K mg base 1 p.CP "names" (sp_Pieces_names p) []) (m_Pieces_without : C8.Met p.P p.w p.K mg base 8 p.CP "without" (sp_Pieces_without p) []) (c_is_kept : C8.Cal p.P p.w p.K mg base 10 "is_kept" (sp_is_kept p) []) (k_Kept : C8.Mak p.P p.w p.K mg base 4 "Kept" p.CK (sp_Kept_init p) []) : C8.Cal p.P p.w p.K mg base 12 "instead_of" (sp_instead_of p) [] := by
  obtain ⟨fd, F⟩ := z.def_ 55 (d := d_instead_of) rfl
  have ok : FnOk p.P p.w p.K mg base C8.CX0 12 (He.fAd p.K d_instead_of.at_) fd ["pieces", "failings", "row"] (sp_instead_of p) :=
    F.ok sc_instead_of (fun vs H Q E h => by obtain ⟨R, ⟨rs, k, r, ⟨v, y, ev, _⟩, _⟩, _⟩ := h; rw [ev]; rfl) fun cdv A outer s H vs Q E hr h => ⟨t_instead_of p, PSs.nox (wk_instead_of c_need_failings c_refused_with m_Pieces_names m_Pieces_without c_is_kept k_Kept hr), rd_instead_of p vs H Q E h⟩
  exact ⟨_, fd, _, [], ok, (He.glo_ok X G (z.fact 31 (f := .glo "instead_of") rfl)), F.kp, (F.bindsN fun _ _ _ _ _ _ us hl => match us, hl with | [_, _, _], _ => rfl), .nil⟩
theorem cal_law_cell (X : p.K.In h) (G : h.Ns mainGlobals mg) (z : He.SaysD fa fn p.K) (B : Blt mg) (C : Cns mg p) (o : PmOk p) (hBe : p.B = LmB) : C8.Cal p.P p.w p.K mg base 1 "_law_cell" (sp_law_cell p) [] := by
  obtain ⟨fd, F⟩ := z.def_ 69 (d := d_law_cell) rfl
  have ok : FnOk p.P p.w p.K mg base C8.CX0 1 (He.fAd p.K d_law_cell.at_) fd ["_law_script", "_law_k"] (sp_law_cell p) :=
    F.ok sc_law_cell (fun vs H Q E h => by obtain ⟨R, ⟨b0, b1, b2, ev, _⟩, _⟩ := h; rw [ev]; rfl) fun cdv A outer s H vs Q E hr h => ⟨t_law_cell p, PSs.nox (wk_law_cell B hr), rd_law_cell p vs H Q E h⟩
  exact ⟨_, fd, _, [], ok, (He.glo_ok X G (z.fact 36 (f := .glo "_law_cell") rfl)), F.kp, (F.bindsN fun _ _ _ _ _ _ us hl => match us, hl with | [_, _], _ => rfl), .nil⟩
theorem cal_law_box (X : p.K.In h) (G : h.Ns mainGlobals mg) (z : He.SaysD fa fn p.K) (B : Blt mg) (C : Cns mg p) (o : PmOk p) (hBe : p.B = LmB) : C8.Cal p.P p.w p.K mg base 1 "_law_box" (sp_law_box p) [] := by
  obtain ⟨fd, F⟩ := z.def_ 70 (d := d_law_box) rfl
  have ok : FnOk p.P p.w p.K mg base C8.CX0 1 (He.fAd p.K d_law_box.at_) fd ["_law_cell_here"] (sp_law_box p) :=
    F.ok sc_law_box (fun vs H Q E h => by obtain ⟨R, ⟨b0, ev, _⟩, _⟩ := h; rw [ev]; rfl) fun cdv A outer s H vs Q E hr h => ⟨t_law_box p, PSs.nox (wk_law_box B hr), rd_law_box p vs H Q E h⟩
  exact ⟨_, fd, _, [], ok, (He.glo_ok X G (z.fact 37 (f := .glo "_law_box") rfl)), F.kp, (F.bindsN fun _ _ _ _ _ _ us hl => match us, hl with | [_], _ => rfl), .nil⟩
theorem cal_law_take (X : p.K.In h) (G : h.Ns mainGlobals mg) (z : He.SaysD fa fn p.K) (B : Blt mg) (C : Cns mg p) (o : PmOk p) (hBe : p.B = LmB) : C8.Cal p.P p.w p.K mg base 1 "_law_take" (sp_law_take p) [] := by
  obtain ⟨fd, F⟩ := z.def_ 71 (d := d_law_take) rfl
  have ok : FnOk p.P p.w p.K mg base C8.CX0 1 (He.fAd p.K d_law_take.at_) fd ["_law_box_here", "_law_many"] (sp_law_take p) :=
    F.ok sc_law_take (fun vs H Q E h => by obtain ⟨b0, b1, b2, ev, _⟩ := h; rw [ev]; rfl) fun cdv A outer s H vs Q E hr h => ⟨t_law_take p, PSs.nox (wk_law_take hr), rd_law_take p vs H Q E h⟩
  exact ⟨_, fd, _, [], ok, (He.glo_ok X G (z.fact 38 (f := .glo "_law_take") rfl)), F.kp, (F.bindsN fun _ _ _ _ _ _ us hl => match us, hl with | [_, _], _ => rfl), .nil⟩
theorem cal_law_names (X : p.K.In h) (G : h.Ns mainGlobals mg) (z : He.SaysD fa fn p.K) (B : Blt mg) (C : Cns mg p) (o : PmOk p) (hBe : p.B = LmB) (c_law_take : C8.Cal p.P p.w p.K mg base 1 "_law_take" (sp_law_take p) []) : C8.Cal p.P p.w p.K mg base 2 "_law_names" (sp_law_names p) [] := by
  obtain ⟨fd, F⟩ := z.def_ 72 (d := d_law_names) rfl
  have ok : FnOk p.P p.w p.K mg base C8.CX0 2 (He.fAd p.K d_law_names.at_) fd ["_law_box_here", "_law_many"] (sp_law_names p) :=
    F.ok sc_law_names (fun vs H Q E h => by obtain ⟨b0, b1, ev, _⟩ := h; rw [ev]; rfl) fun cdv A outer s H vs Q E hr h => ⟨t_law_names p, PSs.nox (wk_law_names B c_law_take hr), rd_law_names p vs H Q E h⟩
  exact ⟨_, fd, _, [], ok, (He.glo_ok X G (z.fact 39 (f := .glo "_law_names") rfl)), F.kp, (F.bindsN fun _ _ _ _ _ _ us hl => match us, hl with | [_, _], _ => rfl), .nil⟩
theorem cal_law_need (X : p.K.In h) (G : h.Ns mainGlobals mg) (z : He.SaysD fa fn p.K) (B : Blt mg) (C : Cns mg p) (o : PmOk p) (hBe : p.B = LmB) : C8.Cal p.P p.w p.K mg base 1 "_law_need" (sp_law_need p) [] := by
  obtain ⟨fd, F⟩ := z.def_ 73 (d := d_law_need) rfl
  have ok : FnOk p.P p.w p.K mg base C8.CX0 1 (He.fAd p.K d_law_need.at_) fd ["_law_rows", "_law_start", "_law_end", "_law_failings"] (sp_law_need p) :=
    F.ok sc_law_need (fun vs H Q E h => by obtain ⟨R, ⟨b0, b1, b2, b3, b4, ev, _⟩, _⟩ := h; rw [ev]; rfl) fun cdv A outer s H vs Q E hr h => ⟨t_law_need p, PSs.nox (wk_law_need B hr), rd_law_need p vs H Q E h⟩
  exact ⟨_, fd, _, [], ok, (He.glo_ok X G (z.fact 40 (f := .glo "_law_need") rfl)), F.kp, (F.bindsN fun _ _ _ _ _ _ us hl => match us, hl with | [_, _, _, _], _ => rfl), .nil⟩
theorem cal_law_short (X : p.K.In h) (G : h.Ns mainGlobals mg) (z : He.SaysD fa fn p.K) (B : Blt mg) (C : Cns mg p) (o : PmOk p) (hBe : p.B = LmB) (c_law_need : C8.Cal p.P p.w p.K mg base 1 "_law_need" (sp_law_need p) []) : C8.Cal p.P p.w p.K mg base 2 "_law_short" (sp_law_short p) [] := by
  obtain ⟨fd, F⟩ := z.def_ 74 (d := d_law_short) rfl
  have ok : FnOk p.P p.w p.K mg base C8.CX0 2 (He.fAd p.K d_law_short.at_) fd ["_law_rows", "_law_failings"] (sp_law_short p) :=
    F.ok sc_law_short (fun vs H Q E h => by obtain ⟨R, ⟨b0, b1, b2, ev, _⟩, _⟩ := h; rw [ev]; rfl) fun cdv A outer s H vs Q E hr h => ⟨t_law_short p, PSs.nox (wk_law_short B c_law_need hr), rd_law_short p vs H Q E h⟩
  exact ⟨_, fd, _, [], ok, (He.glo_ok X G (z.fact 41 (f := .glo "_law_short") rfl)), F.kp, (F.bindsN fun _ _ _ _ _ _ us hl => match us, hl with | [_, _], _ => rfl), .nil⟩
theorem cal_law_drawn_row (X : p.K.In h) (G : h.Ns mainGlobals mg) (z : He.SaysD fa fn p.K) (B : Blt mg) (C : Cns mg p) (o : PmOk p) (hBe : p.B = LmB) (c_law_take : C8.Cal p.P p.w p.K mg base 1 "_law_take" (sp_law_take p) []) : C8.Cal p.P p.w p.K mg base 2 "_law_drawn_row" (sp_law_drawn_row p) [] := by
  obtain ⟨fd, F⟩ := z.def_ 75 (d := d_law_drawn_row) rfl
  have ok : FnOk p.P p.w p.K mg base C8.CX0 2 (He.fAd p.K d_law_drawn_row.at_) fd ["_law_box_here", "_law_name", "_law_turns", "_law_long"] (sp_law_drawn_row p) :=
    F.ok sc_law_drawn_row (fun vs H Q E h => by obtain ⟨b0, b1, b2, b3, b4, ev, _⟩ := h; rw [ev]; rfl) fun cdv A outer s H vs Q E hr h => ⟨t_law_drawn_row p, PSs.nox (wk_law_drawn_row B c_law_take hr), rd_law_drawn_row p vs H Q E h⟩
  exact ⟨_, fd, _, [], ok, (He.glo_ok X G (z.fact 42 (f := .glo "_law_drawn_row") rfl)), F.kp, (F.bindsN fun _ _ _ _ _ _ us hl => match us, hl with | [_, _, _, _], _ => rfl), .nil⟩
theorem cal_law_promised (X : p.K.In h) (G : h.Ns mainGlobals mg) (z : He.SaysD fa fn p.K) (B : Blt mg) (C : Cns mg p) (o : PmOk p) (hBe : p.B = LmB) (c_law_take : C8.Cal p.P p.w p.K mg base 1 "_law_take" (sp_law_take p) []) (c_law_drawn_row : C8.Cal p.P p.w p.K mg base 2 "_law_drawn_row" (sp_law_drawn_row p) []) (c_law_short : C8.Cal p.P p.w p.K mg base 2 "_law_short" (sp_law_short p) []) : C8.Cal p.P p.w p.K mg base 3 "_law_promised" (sp_law_promised p) [] := by
  obtain ⟨fd, F⟩ := z.def_ 76 (d := d_law_promised) rfl
  have ok : FnOk p.P p.w p.K mg base C8.CX0 3 (He.fAd p.K d_law_promised.at_) fd ["_law_box_here", "_law_names_here", "_law_failings"] (sp_law_promised p) :=
    F.ok sc_law_promised (fun vs H Q E h => by obtain ⟨b0, b1, b2, b3, b4, ev, _⟩ := h; rw [ev]; rfl) fun cdv A outer s H vs Q E hr h => ⟨t_law_promised p, PSs.nox (wk_law_promised c_law_take c_law_drawn_row c_law_short hr), rd_law_promised p vs H Q E h⟩
  exact ⟨_, fd, _, [], ok, (He.glo_ok X G (z.fact 43 (f := .glo "_law_promised") rfl)), F.kp, (F.bindsN fun _ _ _ _ _ _ us hl => match us, hl with | [_, _, _], _ => rfl), .nil⟩
theorem cal_law_order_right (X : p.K.In h) (G : h.Ns mainGlobals mg) (z : He.SaysD fa fn p.K) (B : Blt mg) (C : Cns mg p) (o : PmOk p) (hBe : p.B = LmB) : C8.Cal p.P p.w p.K mg base 1 "_law_order_right" (sp_law_order_right p) [] := by
  obtain ⟨fd, F⟩ := z.def_ 77 (d := d_law_order_right) rfl
  have ok : FnOk p.P p.w p.K mg base C8.CX0 1 (He.fAd p.K d_law_order_right.at_) fd ["_law_rows", "_law_order"] (sp_law_order_right p) :=
    F.ok sc_law_order_right (fun vs H Q E h => by obtain ⟨R, ⟨b0, b1, b2, b3, ev, _⟩, _⟩ := h; rw [ev]; rfl) fun cdv A outer s H vs Q E hr h => ⟨t_law_order_right p, PSs.nox (wk_law_order_right B hr), rd_law_order_right p vs H Q E h⟩
  exact ⟨_, fd, _, [], ok, (He.glo_ok X G (z.fact 44 (f := .glo "_law_order_right") rfl)), F.kp, (F.bindsN fun _ _ _ _ _ _ us hl => match us, hl with | [_, _], _ => rfl), .nil⟩
theorem cal_law_numbers (X : p.K.In h) (G : h.Ns mainGlobals mg) (z : He.SaysD fa fn p.K) (B : Blt mg) (C : Cns mg p) (o : PmOk p) (hBe : p.B = LmB) (c_law_short : C8.Cal p.P p.w p.K mg base 2 "_law_short" (sp_law_short p) []) : C8.Cal p.P p.w p.K mg base 3 "_law_numbers" (sp_law_numbers p) [] := by
  obtain ⟨fd, F⟩ := z.def_ 78 (d := d_law_numbers) rfl
  have ok : FnOk p.P p.w p.K mg base C8.CX0 3 (He.fAd p.K d_law_numbers.at_) fd ["_law_rows", "_law_failings", "_law_row", "_law_place", "_law_step", "_law_most"] (sp_law_numbers p) :=
    F.ok sc_law_numbers (fun vs H Q E h => by obtain ⟨R, ⟨b0, b1, b2, b3, b4, b5, b6, b7, b8, ev, _⟩, _⟩ := h; rw [ev]; rfl) fun cdv A outer s H vs Q E hr h => ⟨t_law_numbers p, PSs.nox (wk_law_numbers B c_law_short hr), rd_law_numbers p vs H Q E h⟩
  exact ⟨_, fd, _, [], ok, (He.glo_ok X G (z.fact 45 (f := .glo "_law_numbers") rfl)), F.kp, (F.bindsN fun _ _ _ _ _ _ us hl => match us, hl with | [_, _, _, _, _, _], _ => rfl), .nil⟩
theorem cal_law_turns_right (X : p.K.In h) (G : h.Ns mainGlobals mg) (z : He.SaysD fa fn p.K) (B : Blt mg) (C : Cns mg p) (o : PmOk p) (hBe : p.B = LmB) : C8.Cal p.P p.w p.K mg base 1 "_law_turns_right" (sp_law_turns_right p) [] := by
  obtain ⟨fd, F⟩ := z.def_ 79 (d := d_law_turns_right) rfl
  have ok : FnOk p.P p.w p.K mg base C8.CX0 1 (He.fAd p.K d_law_turns_right.at_) fd ["_law_told", "_law_found", "_law_most"] (sp_law_turns_right p) :=
    F.ok sc_law_turns_right (fun vs H Q E h => by obtain ⟨R, ⟨b0, b1, b2, b3, ev, _⟩, _⟩ := h; rw [ev]; rfl) fun cdv A outer s H vs Q E hr h => ⟨t_law_turns_right p, PSs.nox (wk_law_turns_right B hr), rd_law_turns_right p vs H Q E h⟩
  exact ⟨_, fd, _, [], ok, (He.glo_ok X G (z.fact 46 (f := .glo "_law_turns_right") rfl)), F.kp, (F.bindsN fun _ _ _ _ _ _ us hl => match us, hl with | [_, _, _], _ => rfl), .nil⟩
theorem cal_law_borne (X : p.K.In h) (G : h.Ns mainGlobals mg) (z : He.SaysD fa fn p.K) (B : Blt mg) (C : Cns mg p) (o : PmOk p) (hBe : p.B = LmB) (c_law_short : C8.Cal p.P p.w p.K mg base 2 "_law_short" (sp_law_short p) []) : C8.Cal p.P p.w p.K mg base 3 "_law_borne" (sp_law_borne p) [] := by
  obtain ⟨fd, F⟩ := z.def_ 80 (d := d_law_borne) rfl
  have ok : FnOk p.P p.w p.K mg base C8.CX0 3 (He.fAd p.K d_law_borne.at_) fd ["_law_rows"] (sp_law_borne p) :=
    F.ok sc_law_borne (fun vs H Q E h => by obtain ⟨R, ⟨b0, b1, ev, _⟩, _⟩ := h; rw [ev]; rfl) fun cdv A outer s H vs Q E hr h => ⟨t_law_borne p, PSs.nox (wk_law_borne c_law_short hr), rd_law_borne p vs H Q E h⟩
  exact ⟨_, fd, _, [], ok, (He.glo_ok X G (z.fact 47 (f := .glo "_law_borne") rfl)), F.kp, (F.bindsN fun _ _ _ _ _ _ us hl => match us, hl with | [_], _ => rfl), .nil⟩
theorem cal_law_instead_right (X : p.K.In h) (G : h.Ns mainGlobals mg) (z : He.SaysD fa fn p.K) (B : Blt mg) (C : Cns mg p) (o : PmOk p) (hBe : p.B = LmB) (c_law_short : C8.Cal p.P p.w p.K mg base 2 "_law_short" (sp_law_short p) []) (c_instead_of : C8.Cal p.P p.w p.K mg base 12 "instead_of" (sp_instead_of p) []) (m_Kept_word : C8.Met p.P p.w p.K mg base 1 p.CK "word" (sp_Kept_word p) []) (m_Kept_holds : C8.Met p.P p.w p.K mg base 11 p.CK "holds" (sp_Kept_holds p) []) (m_Paper_failings : C8.Met p.P p.w p.K mg base 1 p.CK "failings" (sp_Paper_failings p) []) (c_law_order_right : C8.Cal p.P p.w p.K mg base 1 "_law_order_right" (sp_law_order_right p) []) (m_Kept_order : C8.Met p.P p.w p.K mg base 7 p.CK "order" (sp_Kept_order p) []) : C8.Cal p.P p.w p.K mg base 13 "_law_instead_right" (sp_law_instead_right p) [] := by
  obtain ⟨fd, F⟩ := z.def_ 81 (d := d_law_instead_right) rfl
  have ok : FnOk p.P p.w p.K mg base C8.CX0 13 (He.fAd p.K d_law_instead_right.at_) fd ["_law_pieces", "_law_rows", "_law_failings", "_law_row"] (sp_law_instead_right p) :=
    F.ok sc_law_instead_right (fun vs H Q E h => by obtain ⟨b0, b1, b2, b3, b4, b5, ev, _⟩ := h; rw [ev]; rfl) fun cdv A outer s H vs Q E hr h => ⟨t_law_instead_right p, PSs.nox (wk_law_instead_right B c_law_short c_instead_of m_Kept_word m_Kept_holds m_Paper_failings c_law_order_right m_Kept_order hr), rd_law_instead_right p o vs H Q E h⟩
  exact ⟨_, fd, _, [], ok, (He.glo_ok X G (z.fact 48 (f := .glo "_law_instead_right") rfl)), F.kp, (F.bindsN fun _ _ _ _ _ _ us hl => match us, hl with | [_, _, _, _], _ => rfl), .nil⟩
theorem cal_law_right (X : p.K.In h) (G : h.Ns mainGlobals mg) (z : He.SaysD fa fn p.K) (B : Blt mg) (C : Cns mg p) (o : PmOk p) (hBe : p.B = LmB) (k_Pieces : C8.Mak p.P p.w p.K mg base 6 "Pieces" p.CP (sp_Pieces_init p) []) (c_law_numbers : C8.Cal p.P p.w p.K mg base 3 "_law_numbers" (sp_law_numbers p) []) (c_law_turns_right : C8.Cal p.P p.w p.K mg base 1 "_law_turns_right" (sp_law_turns_right p) []) (c_later_end : C8.Cal p.P p.w p.K mg base 12 "later_end" (sp_later_end p) []) (c_earlier_start : C8.Cal p.P p.w p.K mg base 12 "earlier_start" (sp_earlier_start p) [.int 0]) (c_fewer : C8.Cal p.P p.w p.K mg base 12 "fewer" (sp_fewer p) []) (c_law_borne : C8.Cal p.P p.w p.K mg base 3 "_law_borne" (sp_law_borne p) []) (c_law_instead_right : C8.Cal p.P p.w p.K mg base 13 "_law_instead_right" (sp_law_instead_right p) []) (m_Pieces_told : C8.Met p.P p.w p.K mg base 1 p.CP "told" (sp_Pieces_told p) []) : C8.Cal p.P p.w p.K mg base 14 "_law_right" (sp_law_right p) [] := by
  obtain ⟨fd, F⟩ := z.def_ 82 (d := d_law_right) rfl
  have ok : FnOk p.P p.w p.K mg base C8.CX0 14 (He.fAd p.K d_law_right.at_) fd ["_law_rows", "_law_failings", "_law_row"] (sp_law_right p) :=
    F.ok sc_law_right (fun vs H Q E h => by obtain ⟨b0, b1, b2, b3, b4, b5, ev, _⟩ := h; rw [ev]; rfl) fun cdv A outer s H vs Q E hr h => ⟨t_law_right p, PSs.nox (wk_law_right B k_Pieces c_law_numbers c_law_turns_right c_later_end c_earlier_start c_fewer c_law_borne c_law_instead_right m_Pieces_told hr), rd_law_right p o vs H Q E h⟩
  exact ⟨_, fd, _, [], ok, (He.glo_ok X G (z.fact 49 (f := .glo "_law_right") rfl)), F.kp, (F.bindsN fun _ _ _ _ _ _ us hl => match us, hl with | [_, _, _], _ => rfl), .nil⟩
theorem cal_law (X : p.K.In h) (G : h.Ns mainGlobals mg) (z : He.SaysD fa fn p.K) (B : Blt mg) (C : Cns mg p) (o : PmOk p) (hBe : p.B = LmB) (c_law_box : C8.Cal p.P p.w p.K mg base 1 "_law_box" (sp_law_box p) []) (c_law_cell : C8.Cal p.P p.w p.K mg base 1 "_law_cell" (sp_law_cell p) []) (c_law_take : C8.Cal p.P p.w p.K mg base 1 "_law_take" (sp_law_take p) []) (c_law_promised : C8.Cal p.P p.w p.K mg base 3 "_law_promised" (sp_law_promised p) []) (c_law_names : C8.Cal p.P p.w p.K mg base 2 "_law_names" (sp_law_names p) []) (c_law_right : C8.Cal p.P p.w p.K mg base 14 "_law_right" (sp_law_right p) []) : C8.Cal p.P p.w p.K mg base 15 "law" (sp_law p) [] := by
  obtain ⟨fd, F⟩ := z.def_ 83 (d := d_law) rfl
  have ok : FnOk p.P p.w p.K mg base C8.CX0 15 (He.fAd p.K d_law.at_) fd ["_law_script"] (sp_law p) :=
    F.ok sc_law (fun vs H Q E h => by obtain ⟨b0, b1, ev, _⟩ := h; rw [ev]; rfl) fun cdv A outer s H vs Q E hr h => ⟨t_law p, PSs.nox (wk_law B c_law_box c_law_cell c_law_take c_law_promised c_law_names c_law_right hr), rd_law p o vs H Q E h⟩
  exact ⟨_, fd, _, [], ok, (He.glo_ok X G (z.fact 50 (f := .glo "law") rfl)), F.kp, (F.bindsN fun _ _ _ _ _ _ us hl => match us, hl with | [_], _ => rfl), .nil⟩

end
end Fs

set_option Elab.async false
set_option linter.all false
set_option maxRecDepth 100000
set_option maxHeartbeats 4000000
/-! the walks (printed by gen_walk.py) -/
namespace Fs
open PySem PySem.Spec PyProof.Rows L2 Evl
open LamX NdefX
/-- later_end, earlier_start, by_counts: with their code objects -/
theorem code_of {K : PySem.W.Frag} {x qual : Str} {params : Arguments} {body : List Stmt} {scope : Scope} {dvs : List V} {kws : List (Str × V)} {fd : FuncData} {p : Str × Option Str} (F : FunD K x qual params body scope dvs kws (He.fAd K p) fd) : fd.code = .ref (He.codeOf K p) := by
  obtain ⟨oc, od, dV, kV, doc, pm, an, cdv, ct, osl, rfl, lk, hcd, _, _⟩ := F.ex
  obtain ⟨c, rfl⟩ := He.codeIn_ref hcd
  rw [He.codeOf_eq lk rfl]
def pmOf (P : Program) (w : World) (K : PySem.W.Frag) : Pm := ⟨P, w, K, He.ga K "Pieces", He.ga K "Kept", He.ga K "Run", He.ga K "Crowd", He.ga K "Paper", [((He.cT K ("by_counts", none)).2, "by_counts.<locals>.<lambda>"), ((He.cT K ("later_end", none)).2, "later_end.<locals>.<lambda>"), ((He.cT K ("earlier_start", none)).2, "earlier_start.<locals>.<lambda>")], LmB⟩
section
variable {P : Program} {w : World} {K : PySem.W.Frag} {mg : Str → Option Value} {base h : Heap}
theorem apart (a : apartB K = true) : (He.cT K ("by_counts", none)).2 ≠ (He.cT K ("later_end", none)).2 ∧ (He.cT K ("by_counts", none)).2 ≠ (He.cT K ("earlier_start", none)).2 ∧ (He.cT K ("later_end", none)).2 ≠ (He.cT K ("earlier_start", none)).2 := by
  unfold apartB at a
  simp only [Bool.and_eq_true, decide_eq_true_eq] at a
  exact a
theorem mem_T {q : Addr × Str} (hq : q ∈ (pmOf P w K).T) : q = ((He.cT K ("by_counts", none)).2, ("by_counts.<locals>.<lambda>" : Str)) ∨ q = ((He.cT K ("later_end", none)).2, ("later_end.<locals>.<lambda>" : Str)) ∨ q = ((He.cT K ("earlier_start", none)).2, ("earlier_start.<locals>.<lambda>" : Str)) := by
  have : q ∈ [((He.cT K ("by_counts", none)).2, ("by_counts.<locals>.<lambda>" : Str)), ((He.cT K ("later_end", none)).2, "later_end.<locals>.<lambda>"), ((He.cT K ("earlier_start", none)).2, "earlier_start.<locals>.<lambda>")] := hq
  simpa using this
theorem cal_by_counts (X : K.In h) (G : h.Ns mainGlobals mg) (z : He.SaysD fa fn K) (a : apartB K = true) (TB : TabB base mg (He.cT K ("by_counts", none)).1 (He.cT K ("by_counts", none)).2) : C8.Cal P w K mg base 1 "by_counts" (sp_by_counts (pmOf P w K)) [] := by
  obtain ⟨fd, F⟩ := z.def_ 12 (d := d_by_counts) rfl
  obtain ⟨a1, a2, a3⟩ := apart a
  have ok := ok_by_counts (p := pmOf P w K) (mg := mg) (base := base) F (code_of (p := ("by_counts", none)) F) TB rfl (List.mem_cons_self) fun q hq e => by
    rcases mem_T hq with rfl | rfl | rfl
    · rfl
    · exact absurd e.symm a1
    · exact absurd e.symm a2
  exact ⟨_, fd, _, [], ok, (He.glo_ok X G (z.fact 5 (f := .glo "by_counts") rfl)), F.kp, F.bindsN fun _ _ _ _ _ _ us hl => match us, hl with | [_], _ => rfl, .nil⟩
theorem cal_later_end (X : K.In h) (G : h.Ns mainGlobals mg) (z : He.SaysD fa fn K) (a : apartB K = true) (C : Cns mg (pmOf P w K)) (TB : TabB base mg (He.cT K ("later_end", none)).1 (He.cT K ("later_end", none)).2) (c_need_failings : C8.Cal P w K mg base 3 "need_failings" (sp_need_failings (pmOf P w K)) []) (c_refused_with : C8.Cal P w K mg base 11 "refused_with" (sp_refused_with (pmOf P w K)) [])
    (c_least_turns : C8.Cal P w K mg base 11 "least_turns" (sp_least_turns (pmOf P w K) (LmL (pmOf P w K))) []) : C8.Cal P w K mg base 12 "later_end" (sp_later_end (pmOf P w K)) [] := by
  obtain ⟨fd, F⟩ := z.def_ 52 (d := d_later_end) rfl
  obtain ⟨a1, a2, a3⟩ := apart a
  have hcode : fd.code = .ref (He.cT K ("later_end", none)).1 := code_of (p := ("later_end", none)) F
  have ok : FnOk P w K mg base C8.CX0 12 (He.fAd K d_later_end.at_) fd ["pieces", "failings", "row"] (sp_later_end (pmOf P w K)) :=
    okC F sc_later_end (fun vs H Q E h => by obtain ⟨rs, k, r, ⟨v, y, ev, _⟩, _⟩ := h; rw [ev]; rfl) fun A outer s H vs Q E hr h => by
      rw [hcode] at hr ⊢
      exact ⟨_, wk_later_end (p := pmOf P w K) C TB (List.mem_cons_of_mem _ List.mem_cons_self) (fun q hq e => by
        rcases mem_T hq with rfl | rfl | rfl
        · exact absurd e a1
        · rfl
        · exact absurd e.symm a3) c_need_failings c_refused_with c_least_turns hr, rd_later_end (pmOf P w K) (LmL (pmOf P w K)) rfl rfl _ vs H Q E h⟩
  exact ⟨_, fd, _, [], ok, (He.glo_ok X G (z.fact 28 (f := .glo "later_end") rfl)), F.kp, F.bindsN fun _ _ _ _ _ _ us hl => match us, hl with | [_, _, _], _ => rfl, .nil⟩
theorem cal_earlier_start (X : K.In h) (G : h.Ns mainGlobals mg) (z : He.SaysD fa fn K) (a : apartB K = true) (C : Cns mg (pmOf P w K)) (TB : TabB base mg (He.cT K ("earlier_start", none)).1 (He.cT K ("earlier_start", none)).2) (c_need_failings : C8.Cal P w K mg base 3 "need_failings" (sp_need_failings (pmOf P w K)) []) (c_is_within : C8.Cal P w K mg base 2 "is_within" (sp_is_within (pmOf P w K)) []) (c_refused_with : C8.Cal P w K mg base 11 "refused_with" (sp_refused_with (pmOf P w K)) [])
    (c_least_turns : C8.Cal P w K mg base 11 "least_turns" (sp_least_turns (pmOf P w K) (LmE (pmOf P w K))) []) : C8.Cal P w K mg base 12 "earlier_start" (sp_earlier_start (pmOf P w K)) [.int 0] := by
  obtain ⟨fd, F⟩ := z.def_ 53 (d := d_earlier_start) rfl
  obtain ⟨a1, a2, a3⟩ := apart a
  have hcode : fd.code = .ref (He.cT K ("earlier_start", none)).1 := code_of (p := ("earlier_start", none)) F
  have ok : FnOk P w K mg base C8.CX0 12 (He.fAd K d_earlier_start.at_) fd ["pieces", "failings", "row", "now"] (sp_earlier_start (pmOf P w K)) :=
    okC F sc_earlier_start (fun vs H Q E h => by obtain ⟨rs, k, r, v, y, ev, _⟩ := h; rw [ev]; rfl) fun A outer s H vs Q E hr h => by
      rw [hcode] at hr ⊢
      exact ⟨_, wk_earlier_start (p := pmOf P w K) C TB (List.mem_cons_of_mem _ (List.mem_cons_of_mem _ List.mem_cons_self)) (fun q hq e => by
        rcases mem_T hq with rfl | rfl | rfl
        · exact absurd e a2
        · exact absurd e a3
        · rfl) c_need_failings c_is_within c_refused_with c_least_turns hr, rd_earlier_start (pmOf P w K) (LmE (pmOf P w K)) rfl rfl _ vs H Q E h⟩
  obtain ⟨ds, v, b⟩ := FunD.binds1 (ps := ["pieces", "failings", "row", "now"]) F 3 0 (by simp [d_earlier_start, He.DefD.dvs]) rfl fun T kV doc pm an cdv ct us its h1 h2 => match us, its, h1, h2 with | [_, _, _], [_], _, _ => ⟨_, rfl, rfl⟩
  exact ⟨_, fd, _, ds, ok, (He.glo_ok X G (z.fact 29 (f := .glo "earlier_start") rfl)), F.kp, b, v⟩
theorem all_ok (X : K.In h) (G : h.Ns mainGlobals mg) (z : He.SaysD fa fn K) (hex : ex K = true) (TB : ∀ q ∈ tf.map (He.cT K), TabB base mg q.1 q.2) {fd : FuncData} (F : FunD K d_law.name d_law.qual d_law.params d_law.body d_law.scope (d_law.dvs K) (d_law.kws K) (He.fAd K d_law.at_) fd) :
    FnOk P w K mg base C8.CX0 15 (He.fAd K d_law.at_) fd ["_law_script"] (sp_law (pmOf P w K)) := by
  unfold ex at hex
  rw [Bool.and_eq_true, Bool.and_eq_true, decide_eq_true_eq] at hex
  obtain ⟨hls, hpap, hap⟩ := hex
  have TBb := TB _ (List.mem_map.mpr ⟨("by_counts", none), by simp [tf], rfl⟩)
  have TBl := TB _ (List.mem_map.mpr ⟨("later_end", none), by simp [tf], rfl⟩)
  have TBe := TB _ (List.mem_map.mpr ⟨("earlier_start", none), by simp [tf], rfl⟩)
  have B : Blt mg := ⟨He.free_ok X G (x := "all") (z.fact 105 rfl), He.free_ok X G (x := "any") (z.fact 106 rfl), He.free_ok X G (x := "bool") (z.fact 107 rfl), He.free_ok X G (x := "dict") (z.fact 108 rfl), He.free_ok X G (x := "enumerate") (z.fact 109 rfl), He.free_ok X G (x := "int") (z.fact 110 rfl), He.free_ok X G (x := "isinstance") (z.fact 111 rfl), He.free_ok X G (x := "len") (z.fact 112 rfl), He.free_ok X G (x := "list") (z.fact 113 rfl), He.free_ok X G (x := "max") (z.fact 114 rfl), He.free_ok X G (x := "min") (z.fact 115 rfl), He.free_ok X G (x := "range") (z.fact 116 rfl), He.free_ok X G (x := "set") (z.fact 117 rfl), He.free_ok X G (x := "sorted") (z.fact 118 rfl), He.free_ok X G (x := "str") (z.fact 119 rfl), He.free_ok X G (x := "sum") (z.fact 120 rfl), He.free_ok X G (x := "tuple") (z.fact 121 rfl)⟩
  have C : Cns mg (pmOf P w K) := ⟨(He.str_ok X G (x := "LETTERS") (z := "abcdefghijklmnopqrstuvwxyz") (z.fact 52 rfl)).elim fun t e => ⟨_, e, t, rfl⟩,
    (He.str_ok X G (x := "FIGURES") (z := "0123456789") (z.fact 51 rfl)).elim fun t e => ⟨_, e, t, rfl⟩,
    (He.int_ok X G (x := "LONGEST_NAME") (i := 8) (z.fact 53 rfl)).elim fun t e => ⟨_, e, t, rfl⟩,
    (He.int_ok X G (x := "MOST") (i := 200) (z.fact 54 rfl)).elim fun t e => ⟨_, e, t, rfl⟩,
    (He.int_ok X G (x := "MOST_TURN_stretches") (i := 199) (z.fact 55 rfl)).elim fun t e => ⟨_, e, t, rfl⟩,
    (He.int_ok X G (x := "MOST_FAILINGS") (i := 300) (z.fact 56 rfl)).elim fun t e => ⟨_, e, t, rfl⟩,
    (He.int_ok X G (x := "MOST_TURN_hindsight") (i := 199) (z.fact 58 rfl)).elim fun t e => ⟨_, e, t, rfl⟩,
    (He.int_ok X G (x := "MOST_PIECES") (i := 30) (z.fact 59 rfl)).elim fun t e => ⟨_, e, t, rfl⟩,
    (He.int_ok X G (x := "MOST_TURN_pieces") (i := 199) (z.fact 60 rfl)).elim fun t e => ⟨_, e, t, rfl⟩,
    (He.int_ok X G (x := "MOST_LENGTH") (i := 12) (z.fact 61 rfl)).elim fun t e => ⟨_, e, t, rfl⟩,
    ⟨_, (He.glo_ok X G (z.fact 104 (f := .glo "Paper") rfl)), rfl⟩⟩
  have o : PmOk (pmOf P w K) := ⟨He.cls_ok (z.fact 78 rfl),
    He.noat_ok (z.fact 80 rfl),
    He.cls_ok (z.fact 90 rfl),
    He.noat_ok (z.fact 92 rfl),
    He.noat_ok (z.fact 93 rfl),
    He.cls_ok (z.fact 99 rfl),
    He.noat_ok (z.fact 101 rfl),
    He.noat_ok (z.fact 102 rfl),
    He.noat_ok (z.fact 103 rfl),
    He.cls_ok (z.fact 63 rfl),
    He.noat_ok (z.fact 65 rfl),
    He.noat_ok (z.fact 66 rfl),
    He.noat_ok (z.fact 67 rfl),
    He.noat_ok (z.fact 68 rfl),
    He.noat_ok (z.fact 69 rfl),
    He.noat_ok (z.fact 70 rfl),
    He.noat_ok (z.fact 71 rfl)⟩
  unfold paperB at hpap
  simp only [Bool.and_eq_true, decide_eq_true_eq] at hpap
  obtain ⟨hp1, hp2, hp3, hp4⟩ := hpap
  have eP : ClX.CRead (pmOf P w K).K (pmOf P w K).CA (.type "type") ∧ ClX.CVal (pmOf P w K).K (pmOf P w K).CA (.type "type") "__init__" (.ref (He.fAd (pmOf P w K).K d_Paper_init.at_)) (.ref (He.fAd (pmOf P w K).K d_Paper_init.at_)) := by
    refine ⟨⟨hp1, hp2⟩, ⟨?_, rfl⟩⟩
    show PySem.W.findCls K (.ref (He.ga K "Paper")) (.type "type") "__init__" = _
    split at hp3
    · rename_i f e
      rw [e, of_decide_eq_true hp3]; rfl
    · cases hp3
  have c_is_whole := cal_is_whole (p := pmOf P w K) (mg := mg) (base := base) X G z B C o rfl
  have c_is_within := cal_is_within (p := pmOf P w K) (mg := mg) (base := base) X G z B C o rfl c_is_whole
  have c_is_name := cal_is_name (p := pmOf P w K) (mg := mg) (base := base) X G z B C o rfl
  have c_is_stretch := cal_is_stretch (p := pmOf P w K) (mg := mg) (base := base) X G z B C o rfl c_is_within
  have c_need_stretch := cal_need_stretch (p := pmOf P w K) (mg := mg) (base := base) X G z B C o rfl c_is_stretch
  have c_need_failings := cal_need_failings (p := pmOf P w K) (mg := mg) (base := base) X G z B C o rfl c_is_within
  have c_room := cal_room (p := pmOf P w K) (mg := mg) (base := base) X G z B C o rfl c_need_stretch
  have c_window_fault := cal_window_fault (p := pmOf P w K) (mg := mg) (base := base) X G z B C o rfl c_is_within
  have c_row_fault := cal_row_fault (p := pmOf P w K) (mg := mg) (base := base) X G z B C o rfl c_is_name c_window_fault
  have c_five_of := cal_five_of (p := pmOf P w K) (mg := mg) (base := base) X G z B C o rfl
  have c_five_rows := cal_five_rows (p := pmOf P w K) (mg := mg) (base := base) X G z B C o rfl c_row_fault c_five_of
  have k_Pieces := mak_Pieces (p := pmOf P w K) (mg := mg) (base := base) X G z B C o rfl ⟨He.mkr_ok (z.fact 79 rfl), (He.glo_ok X G (z.fact 77 (f := .glo "Pieces") rfl))⟩ c_five_rows
  have m_Pieces_told := met_Pieces_told (p := pmOf P w K) (mg := mg) (base := base) X G z B C o rfl ⟨He.cls_ok (z.fact 78 rfl), He.meth_ok (z.fact 81 rfl)⟩
  have m_Pieces_names := met_Pieces_names (p := pmOf P w K) (mg := mg) (base := base) X G z B C o rfl ⟨He.cls_ok (z.fact 78 rfl), He.meth_ok (z.fact 82 rfl)⟩
  have m_Pieces_has := met_Pieces_has (p := pmOf P w K) (mg := mg) (base := base) X G z B C o rfl ⟨He.cls_ok (z.fact 78 rfl), He.meth_ok (z.fact 83 rfl)⟩
  have m_Pieces_row := met_Pieces_row (p := pmOf P w K) (mg := mg) (base := base) X G z B C o rfl ⟨He.cls_ok (z.fact 78 rfl), He.meth_ok (z.fact 84 rfl)⟩ m_Pieces_has
  have m_Pieces_with_row := met_Pieces_with_row (p := pmOf P w K) (mg := mg) (base := base) X G z B C o rfl ⟨He.cls_ok (z.fact 78 rfl), He.meth_ok (z.fact 85 rfl)⟩ k_Pieces m_Pieces_told
  have m_Pieces_without := met_Pieces_without (p := pmOf P w K) (mg := mg) (base := base) X G z B C o rfl ⟨He.cls_ok (z.fact 78 rfl), He.meth_ok (z.fact 86 rfl)⟩ m_Pieces_row k_Pieces m_Pieces_told
  have m_Pieces_put_at := met_Pieces_put_at (p := pmOf P w K) (mg := mg) (base := base) X G z B C o rfl ⟨He.cls_ok (z.fact 78 rfl), He.meth_ok (z.fact 87 rfl)⟩ k_Pieces m_Pieces_told
  have m_Pieces_with_last := met_Pieces_with_last (p := pmOf P w K) (mg := mg) (base := base) X G z B C o rfl ⟨He.cls_ok (z.fact 78 rfl), He.meth_ok (z.fact 88 rfl)⟩ m_Pieces_row m_Pieces_put_at
  have c_rows_within := cal_rows_within (p := pmOf P w K) (mg := mg) (base := base) X G z B C o rfl c_need_stretch m_Pieces_told
  have c_lefts := cal_lefts (p := pmOf P w K) (mg := mg) (base := base) X G z B C o rfl c_rows_within
  have c_greatest_length := cal_greatest_length (p := pmOf P w K) (mg := mg) (base := base) X G z B C o rfl c_rows_within
  have c_longest := cal_longest (p := pmOf P w K) (mg := mg) (base := base) X G z B C o rfl c_greatest_length c_rows_within
  have c_longest_stretches : C8.Cal P w K mg base 7 "longest_stretches" (sp_longest (pmOf P w K)) [] := by
    obtain ⟨f, fd, ps, ds, o1, o2, o3, o4, o5⟩ := c_longest.ex
    have e1 := He.glo_ok X G (z.fact 15 (f := .glo "longest") rfl)
    have e2 := He.glo_ok X G (z.fact 57 (f := .glo "longest_stretches") rfl)
    have e3 : f = He.ga K "longest" := by
      have := o2.symm.trans e1
      exact Value.ref.inj (Option.some.inj this)
    exact ⟨f, fd, ps, ds, o1, by rw [e2, hls, e3], o3, o4, o5⟩
  have c_need := cal_need (p := pmOf P w K) (mg := mg) (base := base) X G z B C o rfl c_need_stretch c_need_failings c_lefts c_greatest_length
  have c_stretches := cal_stretches (p := pmOf P w K) (mg := mg) (base := base) X G z B C o rfl m_Pieces_told c_rows_within
  have c_table := cal_table (p := pmOf P w K) (mg := mg) (base := base) X G z B C o rfl c_need_failings c_stretches c_room c_need
  have c_too_short := cal_too_short (p := pmOf P w K) (mg := mg) (base := base) X G z B C o rfl c_table
  have c_is_kept := cal_is_kept (p := pmOf P w K) (mg := mg) (base := base) X G z B C o rfl c_too_short
  have k_Kept := mak_Kept (p := pmOf P w K) (mg := mg) (base := base) X G z B C o rfl ⟨rfl, He.mkr_ok (z.fact 91 rfl), (He.glo_ok X G (z.fact 89 (f := .glo "Kept") rfl))⟩ c_need_failings
  have x_Paper := pap_x (p := pmOf P w K) (mg := mg) (base := base) X G z B C o rfl eP c_need_failings
  have m_Paper_failings := met_Paper_failings (p := pmOf P w K) (mg := mg) (base := base) X G z B C o rfl ⟨He.cls_ok (z.fact 90 rfl), He.meth_ok (z.fact 97 rfl)⟩
  have m_Kept_word := met_Kept_word (p := pmOf P w K) (mg := mg) (base := base) X G z B C o rfl ⟨He.cls_ok (z.fact 90 rfl), He.meth_ok (z.fact 94 rfl)⟩
  have m_Kept_holds := met_Kept_holds (p := pmOf P w K) (mg := mg) (base := base) X G z B C o rfl ⟨He.cls_ok (z.fact 90 rfl), He.meth_ok (z.fact 95 rfl)⟩ c_is_kept
  have c_quotient := cal_quotient (p := pmOf P w K) (mg := mg) (base := base) X G z B C o rfl c_room c_lefts
  have c_length_of := cal_length_of (p := pmOf P w K) (mg := mg) (base := base) X G z B C o rfl m_Pieces_row
  have c_borne := cal_borne (p := pmOf P w K) (mg := mg) (base := base) X G z B C o rfl m_Pieces_names c_stretches c_quotient c_length_of c_longest_stretches
  have c_refused_with := cal_refused_with (p := pmOf P w K) (mg := mg) (base := base) X G z B C o rfl m_Pieces_with_row c_is_kept
  have c_is_counts := cal_is_counts (p := pmOf P w K) (mg := mg) (base := base) X G z B C o rfl m_Pieces_has c_is_within
  have c_need_counts := cal_need_counts (p := pmOf P w K) (mg := mg) (base := base) X G z B C o rfl c_is_counts
  have m_Run_end_try := met_Run_end_try (p := pmOf P w K) (mg := mg) (base := base) X G z B C o rfl ⟨He.cls_ok (z.fact 63 rfl), He.meth_ok (z.fact 72 rfl)⟩ lok_counts
  have m_Run_end_empty := met_Run_end_empty (p := pmOf P w K) (mg := mg) (base := base) X G z B C o rfl ⟨He.cls_ok (z.fact 63 rfl), He.meth_ok (z.fact 73 rfl)⟩ m_Pieces_told m_Run_end_try
  have m_Run_rests := met_Run_rests (p := pmOf P w K) (mg := mg) (base := base) X G z B C o rfl ⟨He.cls_ok (z.fact 63 rfl), He.meth_ok (z.fact 74 rfl)⟩
  have m_Run_work_on := met_Run_work_on (p := pmOf P w K) (mg := mg) (base := base) X G z B C o rfl ⟨He.cls_ok (z.fact 63 rfl), He.meth_ok (z.fact 75 rfl)⟩ m_Pieces_told m_Run_rests m_Run_end_try
  have k_Run := mak_Run (p := pmOf P w K) (mg := mg) (base := base) X G z B C o rfl ⟨He.mkr_ok (z.fact 64 rfl), (He.glo_ok X G (z.fact 62 (f := .glo "Run") rfl))⟩ m_Pieces_told m_Run_end_empty m_Run_work_on
  have m_Run_rows := met_Run_rows (p := pmOf P w K) (mg := mg) (base := base) X G z B C o rfl ⟨He.cls_ok (z.fact 63 rfl), He.meth_ok (z.fact 76 rfl)⟩
  have c_by_counts := cal_by_counts (P := P) (w := w) (mg := mg) (base := base) X G z hap TBb
  have c_run := cal_run (p := pmOf P w K) (mg := mg) (base := base) X G z B C o rfl c_need_counts k_Run c_by_counts
  have m_Kept_order := met_Kept_order (p := pmOf P w K) (mg := mg) (base := base) X G z B C o rfl ⟨He.cls_ok (z.fact 90 rfl), He.meth_ok (z.fact 96 rfl)⟩ c_run m_Run_rows
  have k_Crowd := mak_Crowd (p := pmOf P w K) (mg := mg) (base := base) X G z B C o rfl ⟨He.mkr_ok (z.fact 100 rfl), (He.glo_ok X G (z.fact 98 (f := .glo "Crowd") rfl))⟩ x_Paper c_is_stretch
  have c_paper_of := cal_paper_of (p := pmOf P w K) (mg := mg) (base := base) X G z B C o rfl c_too_short k_Kept k_Crowd
  have c_least_L := cal_least_turns (p := pmOf P w K) (m := LmL (pmOf P w K)) (mg := mg) (base := base) X G z B C o rfl c_is_kept (lok_later m_Pieces_with_last) c_paper_of k_Kept
  have c_least_E := cal_least_turns (p := pmOf P w K) (m := LmE (pmOf P w K)) (mg := mg) (base := base) X G z B C o rfl c_is_kept (lok_earlier m_Pieces_with_row) c_paper_of k_Kept
  have c_fewer := cal_fewer (p := pmOf P w K) (mg := mg) (base := base) X G z B C o rfl c_need_failings c_borne c_refused_with
  have c_instead_of := cal_instead_of (p := pmOf P w K) (mg := mg) (base := base) X G z B C o rfl c_need_failings c_refused_with m_Pieces_names m_Pieces_without c_is_kept k_Kept
  have c_law_cell := cal_law_cell (p := pmOf P w K) (mg := mg) (base := base) X G z B C o rfl
  have c_law_box := cal_law_box (p := pmOf P w K) (mg := mg) (base := base) X G z B C o rfl
  have c_law_take := cal_law_take (p := pmOf P w K) (mg := mg) (base := base) X G z B C o rfl
  have c_law_names := cal_law_names (p := pmOf P w K) (mg := mg) (base := base) X G z B C o rfl c_law_take
  have c_law_need := cal_law_need (p := pmOf P w K) (mg := mg) (base := base) X G z B C o rfl
  have c_law_short := cal_law_short (p := pmOf P w K) (mg := mg) (base := base) X G z B C o rfl c_law_need
  have c_law_drawn_row := cal_law_drawn_row (p := pmOf P w K) (mg := mg) (base := base) X G z B C o rfl c_law_take
  have c_law_promised := cal_law_promised (p := pmOf P w K) (mg := mg) (base := base) X G z B C o rfl c_law_take c_law_drawn_row c_law_short
  have c_law_order_right := cal_law_order_right (p := pmOf P w K) (mg := mg) (base := base) X G z B C o rfl
  have c_law_numbers := cal_law_numbers (p := pmOf P w K) (mg := mg) (base := base) X G z B C o rfl c_law_short
  have c_law_turns_right := cal_law_turns_right (p := pmOf P w K) (mg := mg) (base := base) X G z B C o rfl
  have c_law_borne := cal_law_borne (p := pmOf P w K) (mg := mg) (base := base) X G z B C o rfl c_law_short
  have c_later_end := cal_later_end (P := P) (w := w) (mg := mg) (base := base) X G z hap C TBl c_need_failings c_refused_with c_least_L
  have c_earlier_start := cal_earlier_start (P := P) (w := w) (mg := mg) (base := base) X G z hap C TBe c_need_failings c_is_within c_refused_with c_least_E
  have c_law_instead_right := cal_law_instead_right (p := pmOf P w K) (mg := mg) (base := base) X G z B C o rfl c_law_short c_instead_of m_Kept_word m_Kept_holds m_Paper_failings c_law_order_right m_Kept_order
  have c_law_right := cal_law_right (p := pmOf P w K) (mg := mg) (base := base) X G z B C o rfl k_Pieces c_law_numbers c_law_turns_right c_later_end c_earlier_start c_fewer c_law_borne c_law_instead_right m_Pieces_told
  exact F.ok sc_law (fun vs H Q E h => by obtain ⟨a, ns, ev, _⟩ := h; rw [ev]; rfl) fun cdv A outer s H vs Q E hr h => ⟨t_law (pmOf P w K), PSs.nox (wk_law (p := pmOf P w K) B c_law_box c_law_cell c_law_take c_law_promised c_law_names c_law_right hr), rd_law (pmOf P w K) o vs H Q E h⟩
end
/-- what the end asks of law -/
theorem law_at {w : World} {K : PySem.W.Frag} {mg : Str → Option Value} {h : Heap} {f : Addr} (X : K.In h) (G : h.Ns mainGlobals mg) (hfa : mg ("law" : Str) = some (.ref f)) (c : He.SaysX fa fn [] tf ex w h K) :
    LamX.LawAtS PySem.Challenge.rw_failslack_k64_whole_what_would_let_it_in w K C8.CX0 15 63 "_law_script" mg f h := by
  have z : He.SaysD fa fn K := c.t.d
  obtain ⟨fd, F⟩ := z.def_ 83 (d := d_law) rfl
  have e := hfa.symm.trans (He.glo_ok X G (z.fact 50 (f := .glo "law") rfl))
  have ef : f = He.fAd K d_law.at_ := Value.ref.inj (Option.some.inj e)
  subst ef
  have b := FunD.bindsA (ps := ["_law_script"]) F fun _ _ _ _ _ _ us hl => match us, hl with | [_], _ => rfl
  refine ⟨fd, tf.map (He.cT K), sp_law (pmOf PySem.Challenge.rw_failslack_k64_whole_what_would_let_it_in.prog w K), fun q hq => ?_, fun q hq => ?_, fun q hq => ?_, fun s u => b s [u] rfl, fun H a ns hn _ hT hS => ⟨a, ns, rfl, hS, hn, fun q hq => ?_, fun H' => rfl⟩, fun base KB GB TB => all_ok X G z c.more TB F⟩
  · obtain ⟨d, hd, rfl⟩ := List.mem_map.mp hq
    exact c.empty d hd
  · obtain ⟨d, hd, rfl⟩ := List.mem_map.mp hq
    exact c.out d hd
  · obtain ⟨d, hd, rfl⟩ := List.mem_map.mp hq
    exact PySem.W.codeHd_of_K X (c.hd d hd)
  · rcases mem_T hq with rfl | rfl | rfl
    · exact TabS.nil (hT _ (List.mem_map.mpr ⟨("by_counts", none), by simp [tf], rfl⟩))
    · exact TabS.nil (hT _ (List.mem_map.mpr ⟨("later_end", none), by simp [tf], rfl⟩))
    · exact TabS.nil (hT _ (List.mem_map.mpr ⟨("earlier_start", none), by simp [tf], rfl⟩))

end Fs

set_option Elab.async false
set_option linter.all false
set_option maxRecDepth 100000
set_option maxHeartbeats 0
open PySem PySem.W PySem.Calls PyProof.Rows
theorem PySem.Challenge.cw_failslack_k64_whole_what_would_let_it_in_holds : PySem.Challenge.rw_failslack_k64_whole_what_would_let_it_in.Holds := by
  w_on; o_law
  refine HandSHeadRun.head_any (r := OpenLaw.row PySem.Challenge.rw_failslack_k64_whole_what_would_let_it_in) (q := view (OpenLaw.row PySem.Challenge.rw_failslack_k64_whole_what_would_let_it_in).prog [85]) (H := Fs.hk) (ob := Fs.ob) (M := 6000) (loose := Fs.nms) (d := HandSHeadRun.topDef (OpenLaw.row PySem.Challenge.rw_failslack_k64_whole_what_would_let_it_in).prog 85) (kwd := []) Fs.ob_eq
    (by kernel_rfl) (fun s => by kernel_rfl) Fs.run (by kernel_rfl) (by kernel_rfl) (by kernel_rfl) (by rfl) (by first | assumption | decide +kernel) (by decide +kernel) ⟨rfl, rfl, rfl, rfl, rfl, by decide +kernel⟩ ?hw ?hc
  case hw => w_witness2
  case hc =>
    refine LamX.walk_ofTsE (l := PySem.Challenge.rw_failslack_k64_whole_what_would_let_it_in) (n := 63) (k := 15) (x := "_law_script") (CX := fun _ => C8.CX0) rfl (by decide) (by kernel_rfl) ⟨rfl, by decide, by decide⟩ ?F (fun _ _ _ _ _ z => z)
    intro w mg fa h Y G hmg0
    obtain ⟨K, KX, c⟩ := Y
    have hmg : mg ("law" : PySem.Str) = some (.ref fa) := by
      have e : (HandSHeadRun.topDef (OpenLaw.row PySem.Challenge.rw_failslack_k64_whole_what_would_let_it_in).prog 85).name = ("law" : PySem.Str) := by kernel_rfl
      rw [← e]
      exact hmg0
    exact ⟨K, KX, Fs.law_at KX G hmg c⟩

