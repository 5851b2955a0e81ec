import PyProof.Rows.All
import Wide.All
import OpenK.AllK
import Wide.FinOn
import HandS.ForMost
import HandS.More
import HandS.Conv
import HandS.Style
import HandS.SortRule
import HandS.SortInts
import PySem.Challenge.RW_oneowner_k85_whole_heaps_by_their_words
set_option Elab.async false
set_option linter.all false
set_option maxRecDepth 100000
set_option maxHeartbeats 4000000
/-! The plain law: blocks, words, greatest rows of free words. No program in sight. -/
namespace OO

/-- the word w lies in a block -/
def Own (zs : List (Int × Int)) (w : Int) : Prop := ∃ p ∈ zs, p.1 ≤ w ∧ w < p.1 + p.2

structure Good (zs : List (Int × Int)) (top : Int) : Prop where
  pos : ∀ p ∈ zs, 1 ≤ p.1 ∧ 1 ≤ p.2 ∧ p.1 + p.2 ≤ top
  dis : ∀ p ∈ zs, ∀ q ∈ zs, p.1 ≤ q.1 → q.1 < p.1 + p.2 → p = q
  nd : (zs.map (·.1)).Nodup
  top1 : 1 ≤ top

/-- (b, r) is a greatest row of free words below top -/
structure IsRun (own : Int → Prop) (top b r : Int) : Prop where
  b1 : 1 ≤ b
  r1 : 1 ≤ r
  ht : b + r ≤ top
  free : ∀ w, b ≤ w → w < b + r → ¬ own w
  left : b = 1 ∨ own (b - 1)
  right : b + r = top ∨ own (b + r)

structure Canon (own : Int → Prop) (top : Int) (ps : List (Int × Int)) : Prop where
  asc : ps.Pairwise (fun p q => p.1 < q.1)
  mem : ∀ p, p ∈ ps ↔ IsRun own top p.1 p.2

theorem run_same {own : Int → Prop} {top b r b' r' : Int} (h : IsRun own top b r) (h' : IsRun own top b' r') (h1 : b ≤ b') (h2 : b' ≤ b + r) : b = b' ∧ r = r' := by
  have e : b = b' := by
    rcases h'.left with q | q
    · have := h.b1; omega
    · by_cases e : b = b'
      · exact e
      · exact absurd q (h.free _ (by omega) (by omega))
  subst e
  refine ⟨rfl, ?_⟩
  rcases Int.lt_trichotomy r r' with l | l | l
  · rcases h.right with q | q
    · have := h'.ht; omega
    · exact absurd q (h'.free _ (by have := h.r1; omega) (by omega))
  · exact l
  · rcases h'.right with q | q
    · have := h.ht; omega
    · exact absurd q (h.free _ (by have := h'.r1; omega) (by omega))

theorem run_cong {own own' : Int → Prop} (e : ∀ w, own w ↔ own' w) {top b r : Int} (h : IsRun own top b r) : IsRun own' top b r :=
  ⟨h.b1, h.r1, h.ht, fun w a b c => h.free w a b ((e w).mpr c), h.left.imp id (e _).mp, h.right.imp id (e _).mp⟩

theorem sorted_ext {α : Type} {r : α → α → Prop} (ir : ∀ a, ¬ r a a) (as : ∀ a b, r a b → ¬ r b a) : ∀ {l1 l2 : List α}, l1.Pairwise r → l2.Pairwise r → (∀ x, x ∈ l1 ↔ x ∈ l2) → l1 = l2
  | [], [], _, _, _ => rfl
  | [], b :: l2, _, _, h => absurd ((h b).mpr (by simp)) (by simp)
  | a :: l1, [], _, _, h => absurd ((h a).mp (by simp)) (by simp)
  | a :: l1, b :: l2, h1, h2, h => by
    obtain ⟨p1, q1⟩ := List.pairwise_cons.mp h1
    obtain ⟨p2, q2⟩ := List.pairwise_cons.mp h2
    have e : a = b := by
      have ha := (h a).mp (by simp)
      have hb := (h b).mpr (by simp)
      rcases List.mem_cons.mp ha with e | ha
      · exact e
      · rcases List.mem_cons.mp hb with e | hb
        · exact e.symm
        · exact absurd (p1 _ hb) (as _ _ (p2 _ ha))
    subst e
    have e2 : l1 = l2 := sorted_ext ir as q1 q2 fun x => by
      constructor
      · intro hx
        rcases List.mem_cons.mp ((h x).mp (List.mem_cons_of_mem _ hx)) with e | e
        · subst e; exact absurd (p1 _ hx) (ir _)
        · exact e
      · intro hx
        rcases List.mem_cons.mp ((h x).mpr (List.mem_cons_of_mem _ hx)) with e | e
        · subst e; exact absurd (p2 _ hx) (ir _)
        · exact e
    rw [e2]

theorem canon_unique {own own' : Int → Prop} {top : Int} {ps ps' : List (Int × Int)} (h : Canon own top ps) (h' : Canon own' top ps') (e : ∀ w, own w ↔ own' w) : ps = ps' :=
  sorted_ext (r := fun p q => p.1 < q.1) (fun _ => Int.lt_irrefl _) (fun _ _ x y => Int.lt_irrefl _ (Int.lt_trans x y)) h.asc h'.asc fun p =>
    ⟨fun m => (h'.mem p).mpr (run_cong e ((h.mem p).mp m)), fun m => (h.mem p).mpr (run_cong (fun w => (e w).symm) ((h'.mem p).mp m))⟩

theorem asc_len : ∀ {ps : List (Int × Int)} {lo hi : Int}, ps.Pairwise (fun p q => p.1 < q.1) → (∀ p ∈ ps, lo ≤ p.1 ∧ p.1 < hi) → lo ≤ hi → (ps.length : Int) ≤ hi - lo
  | [], lo, hi, _, _, h => by simp; omega
  | p :: r, lo, hi, h, hm, _ => by
    obtain ⟨h1, h2⟩ := List.pairwise_cons.mp h
    have hp := hm p (by simp)
    have := asc_len (lo := p.1 + 1) (hi := hi) h2 (fun q hq => ⟨by have := h1 q hq; omega, (hm q (by simp [hq])).2⟩) (by omega)
    rw [List.length_cons]
    omega
theorem canon_len {own : Int → Prop} {top : Int} {ps : List (Int × Int)} (h : Canon own top ps) (ht : 1 ≤ top) : (ps.length : Int) ≤ top - 1 :=
  asc_len h.asc (fun p m => by have q := (h.mem p).mp m; have a := q.b1; have b := q.r1; have c := q.ht; omega) ht

/-! ### taking -/
theorem own_snoc {zs : List (Int × Int)} {a s w : Int} : Own (zs ++ [(a, s)]) w ↔ Own zs w ∨ (a ≤ w ∧ w < a + s) := by
  constructor
  · rintro ⟨p, m, h⟩
    rcases List.mem_append.mp m with m | m
    · exact .inl ⟨p, m, h⟩
    · rw [List.mem_singleton.mp m] at h; exact .inr h
  · rintro (⟨p, m, h⟩ | h)
    · exact ⟨p, List.mem_append_left _ m, h⟩
    · exact ⟨(a, s), by simp, h⟩
theorem own_lt {zs : List (Int × Int)} {top w : Int} (g : Good zs top) (h : Own zs w) : 1 ≤ w ∧ w < top := by
  obtain ⟨p, m, h⟩ := h
  have := g.pos p m
  omega
theorem nodup_snoc {α : Type} {l : List α} {a : α} (h : l.Nodup) (n : a ∉ l) : (l ++ [a]).Nodup := by
  rw [List.nodup_append]
  refine ⟨h, by simp, fun x hx y hy => ?_⟩
  rw [List.mem_singleton.mp hy]
  rintro rfl
  exact n hx
/-- a block that shares no word with the others may be added -/
theorem good_snoc {zs : List (Int × Int)} {top a s top' : Int} (g : Good zs top) (ha : 1 ≤ a) (hs : 1 ≤ s) (ht : a + s ≤ top') (htt : top ≤ top') (hf : ∀ w, a ≤ w → w < a + s → ¬ Own zs w) : Good (zs ++ [(a, s)]) top' := by
  have key : ∀ p ∈ zs, ¬ (p.1 ≤ a ∧ a < p.1 + p.2) ∧ ¬ (a ≤ p.1 ∧ p.1 < a + s) := fun p m => by
    have hp := g.pos p m
    exact ⟨fun q => hf a (by omega) (by omega) ⟨p, m, q⟩, fun q => hf p.1 q.1 q.2 ⟨p, m, by omega, by omega⟩⟩
  refine ⟨fun p m => ?_, fun p mp q mq => ?_, ?_, by have := g.top1; omega⟩
  · rcases List.mem_append.mp m with m | m
    · have := g.pos p m; omega
    · rw [List.mem_singleton.mp m]; exact ⟨ha, hs, ht⟩
  · rcases List.mem_append.mp mp with mp | mp <;> rcases List.mem_append.mp mq with mq | mq
    · exact g.dis p mp q mq
    · rw [List.mem_singleton.mp mq]; intro h1 h2; exact absurd ⟨h1, h2⟩ (key p mp).1
    · rw [List.mem_singleton.mp mp]; intro h1 h2; exact absurd ⟨h1, h2⟩ (key q mq).2
    · rw [List.mem_singleton.mp mp, List.mem_singleton.mp mq]; intros; rfl
  · rw [List.map_append]
    refine nodup_snoc g.nd fun m => ?_
    obtain ⟨p, m, e⟩ := List.mem_map.mp m
    have hp := g.pos p m
    have e : p.1 = a := e
    exact (key p m).1 ⟨by omega, by omega⟩
theorem take_top {zs : List (Int × Int)} {top s : Int} {ps : List (Int × Int)} (g : Good zs top) (c : Canon (Own zs) top ps) (hs : 1 ≤ s) : Good (zs ++ [(top, s)]) (top + s) ∧ Canon (Own (zs ++ [(top, s)])) (top + s) ps := by
  refine ⟨good_snoc g g.top1 hs (Int.le_refl _) (by omega) fun w h1 h2 h3 => by have := own_lt g h3; omega, c.asc, fun p => (c.mem p).trans ?_⟩
  constructor
  · intro h
    refine ⟨h.b1, h.r1, by have := h.ht; omega, fun w h1 h2 h3 => ?_, h.left.imp id fun q => own_snoc.mpr (.inl q), .inr (own_snoc.mpr ?_)⟩
    · rcases own_snoc.mp h3 with q | q
      · exact h.free w h1 h2 q
      · have := h.ht; omega
    · rcases h.right with q | q
      · right; omega
      · exact .inl q
  · intro h
    have h1 := h.b1
    have h2 := h.r1
    have h3 := h.ht
    have hle : p.1 + p.2 ≤ top := by
      by_cases q : p.1 + p.2 ≤ top
      · exact q
      · exact absurd (own_snoc.mpr (.inr ⟨by omega, by omega⟩)) (h.free (p.1 + p.2 - 1) (by omega) (by omega))
    refine ⟨h1, h2, hle, fun w a b q => h.free w a b (own_snoc.mpr (.inl q)), h.left.imp id fun q => ?_, ?_⟩
    · rcases own_snoc.mp q with q | q
      · exact q
      · omega
    · rcases h.right with q | q
      · omega
      · rcases own_snoc.mp q with q | q
        · exact .inr q
        · left; omega
theorem take_run {own own' : Int → Prop} {top b room s b' r' : Int} (e : ∀ w, own' w ↔ own w ∨ (b ≤ w ∧ w < b + s)) (R : IsRun own top b room) (hs : 1 ≤ s) (hr : s ≤ room) :
    IsRun own' top b' r' ↔ (IsRun own top b' r' ∧ b' ≠ b) ∨ (s < room ∧ b' = b + s ∧ r' = room - s) := by
  have B1 := R.b1
  have R1 := R.r1
  have RT := R.ht
  constructor
  · intro h
    have h1 := h.b1
    have h2 := h.r1
    have h3 := h.ht
    have hd : ∀ w, b' ≤ w → w < b' + r' → ¬ own w ∧ ¬ (b ≤ w ∧ w < b + s) := fun w x y => ⟨fun q => h.free w x y ((e w).mpr (.inl q)), fun q => h.free w x y ((e w).mpr (.inr q))⟩
    have hbb : b' ≠ b := fun q => (hd b' (by omega) (by omega)).2 (by omega)
    by_cases hc : b' = b + s
    · right
      have hlt : s < room := by
        rcases Int.lt_or_eq_of_le hr with q | q
        · exact q
        · rcases R.right with z | z
          · omega
          · exact absurd (show own b' by rw [hc, q]; exact z) (hd b' (by omega) (by omega)).1
      refine ⟨hlt, hc, ?_⟩
      rcases Int.lt_trichotomy r' (room - s) with l | l | l
      · rcases h.right with q | q
        · omega
        · rcases (e _).mp q with q | q
          · exact absurd q (R.free _ (by omega) (by omega))
          · omega
      · exact l
      · rcases R.right with q | q
        · omega
        · exact absurd q (hd (b + room) (by omega) (by omega)).1
    · left
      refine ⟨⟨h1, h2, h3, fun w x y => (hd w x y).1, ?_, ?_⟩, hbb⟩
      · rcases h.left with q | q
        · exact .inl q
        · rcases (e _).mp q with q | q
          · exact .inr q
          · exact absurd ⟨by omega, by omega⟩ (hd b' (by omega) (by omega)).2
      · rcases h.right with q | q
        · exact .inl q
        · rcases (e _).mp q with q | q
          · exact .inr q
          · by_cases z : b' + r' = b
            · exfalso
              rcases R.left with y | y
              · omega
              · exact (hd (b - 1) (by omega) (by omega)).1 y
            · exact absurd ⟨by omega, by omega⟩ (hd (b' + r' - 1) (by omega) (by omega)).2
  · rintro (⟨h, hb⟩ | ⟨hlt, rfl, rfl⟩)
    · have h1 := h.b1
      have h2 := h.r1
      have h3 := h.ht
      have sep : b' + r' < b ∨ b + room < b' := by
        rcases Int.lt_or_le (b' + r') b with q | q
        · exact .inl q
        · rcases Int.lt_or_le (b + room) b' with q' | q'
          · exact .inr q'
          · exfalso
            rcases Int.le_total b' b with z | z
            · exact hb (run_same h R z q).1
            · exact hb (run_same R h z q').1.symm
      refine ⟨h1, h2, h3, fun w x y q => ?_, h.left.imp id fun q => (e _).mpr (.inl q), h.right.imp id fun q => (e _).mpr (.inl q)⟩
      rcases (e _).mp q with q | q
      · exact h.free w x y q
      · omega
    · refine ⟨by omega, by omega, by omega, fun w x y q => ?_, .inr ((e _).mpr (.inr ⟨by omega, by omega⟩)), ?_⟩
      · rcases (e _).mp q with q | q
        · exact R.free w (by omega) (by omega) q
        · omega
      · rcases R.right with q | q
        · left; omega
        · right
          have z : b + s + (room - s) = b + room := by omega
          rw [z]
          exact (e _).mpr (.inl q)
theorem take_piece {zs : List (Int × Int)} {top b room s : Int} {A B : List (Int × Int)} (g : Good zs top) (c : Canon (Own zs) top (A ++ (b, room) :: B)) (hs : 1 ≤ s) (hr : s ≤ room) :
    Good (zs ++ [(b, s)]) top ∧ Canon (Own (zs ++ [(b, s)])) top (A ++ (if room = s then [] else [(b + s, room - s)]) ++ B) := by
  have R : IsRun (Own zs) top b room := (c.mem (b, room)).mp (by simp)
  have e : ∀ w, Own (zs ++ [(b, s)]) w ↔ Own zs w ∨ (b ≤ w ∧ w < b + s) := fun w => own_snoc
  obtain ⟨pa, pb, pab⟩ := List.pairwise_append.mp c.asc
  obtain ⟨pb1, pb2⟩ := List.pairwise_cons.mp pb
  have hB : ∀ q ∈ B, b + room < q.1 := fun q m => by
    have Q := (c.mem q).mp (by simp [m])
    have l := pb1 q m
    rcases Int.lt_or_le (b + room) q.1 with z | z
    · exact z
    · have := (run_same R Q (Int.le_of_lt l) z).1
      omega
  have hA : ∀ p ∈ A, p.1 < b := fun p m => pab p m (b, room) (by simp)
  refine ⟨good_snoc g R.b1 hs (by have := R.ht; omega) (Int.le_refl _) fun w x y => R.free w x (by omega), ?_, fun p => ?_⟩
  · refine List.pairwise_append.mpr ⟨List.pairwise_append.mpr ⟨pa, by split <;> simp, fun p hp q hq => ?_⟩, pb2, fun p hp q hq => ?_⟩
    · split at hq
      · cases hq
      · rw [List.mem_singleton.mp hq]
        have := hA p hp
        show p.1 < b + s
        omega
    · rcases List.mem_append.mp hp with hp | hp
      · exact pab p hp q (by simp [hq])
      · split at hp
        · cases hp
        · rw [List.mem_singleton.mp hp]
          have := hB q hq
          show b + s < q.1
          omega
  · rw [take_run e R hs hr]
    constructor
    · intro m
      rcases List.mem_append.mp m with m | m
      · rcases List.mem_append.mp m with m | m
        · exact .inl ⟨(c.mem p).mp (by simp [m]), by have := hA p m; omega⟩
        · split at m
          · cases m
          · rw [List.mem_singleton.mp m]
            exact .inr ⟨by omega, rfl, rfl⟩
      · exact .inl ⟨(c.mem p).mp (by simp [m]), by have := hB p m; have := R.r1; omega⟩
    · rintro (⟨h, hb⟩ | ⟨hlt, h1, h2⟩)
      · rcases List.mem_append.mp ((c.mem p).mpr h) with m | m
        · simp [m]
        · rcases List.mem_cons.mp m with m | m
          · rw [m] at hb; exact absurd rfl hb
          · simp [m]
      · rw [if_neg (by omega)]
        have : p = (b + s, room - s) := Prod.ext h1 h2
        rw [this]
        simp

/-! ### giving back -/
def dropA (zs : List (Int × Int)) (a : Int) : List (Int × Int) := zs.filter fun p => decide (p.1 ≠ a)
theorem own_drop {zs : List (Int × Int)} {top a s w : Int} (g : Good zs top) (m : (a, s) ∈ zs) : Own (dropA zs a) w ↔ Own zs w ∧ ¬ (a ≤ w ∧ w < a + s) := by
  have hs := g.pos _ m
  constructor
  · rintro ⟨p, mp, h⟩
    obtain ⟨mp, ne⟩ := List.mem_filter.mp mp
    have ne : p.1 ≠ a := by simpa using ne
    refine ⟨⟨p, mp, h⟩, fun q => ?_⟩
    rcases Int.le_total a p.1 with z | z
    · exact ne (congrArg Prod.fst (g.dis _ m _ mp z (by show p.1 < a + s; omega))).symm
    · exact ne (congrArg Prod.fst (g.dis _ mp _ m z (by show a < p.1 + p.2; omega)))
  · rintro ⟨⟨p, mp, h⟩, n⟩
    refine ⟨p, List.mem_filter.mpr ⟨mp, ?_⟩, h⟩
    by_cases e : p.1 = a
    · exfalso
      have : p = (a, s) := g.dis _ mp _ m (by show p.1 ≤ a; omega) (by show a < p.1 + p.2; have := g.pos p mp; omega)
      rw [this] at h
      exact n h
    · simp [e]
theorem good_drop {zs : List (Int × Int)} {top a top' : Int} (g : Good zs top) (h1 : 1 ≤ top') (h : ∀ p ∈ dropA zs a, p.1 + p.2 ≤ top') : Good (dropA zs a) top' := by
  refine ⟨fun p m => ?_, fun p mp q mq => g.dis p (List.mem_filter.mp mp).1 q (List.mem_filter.mp mq).1, ?_, h1⟩
  · have := g.pos p (List.mem_filter.mp m).1
    exact ⟨this.1, this.2.1, h p m⟩
  · exact g.nd.sublist (List.filter_sublist.map _)
/-- what the loop of give finds: first, end, the pieces that touch nothing -/
structure Lent (a s : Int) (pre : List (Int × Int)) (f e : Int) (r : List (Int × Int)) : Prop where
  ff : (f = a ∧ ∀ p ∈ pre, p.1 + p.2 ≠ a) ∨ ∃ m, (f, m) ∈ pre ∧ f + m = a
  ee : (e = a + s ∧ ∀ p ∈ pre, p.1 ≠ a + s) ∨ ∃ m, (a + s, m) ∈ pre ∧ e = a + s + m
  rr : r = pre.filter fun p => decide (p.1 + p.2 ≠ a) && decide (p.1 ≠ a + s)
theorem lent_nil {a s : Int} : Lent a s [] a (a + s) [] := ⟨.inl ⟨rfl, fun _ h => (by cases h)⟩, .inl ⟨rfl, fun _ h => (by cases h)⟩, rfl⟩
theorem lent_step {own : Int → Prop} {top a s f e b m : Int} {pre r : List (Int × Int)} (hs : 1 ≤ s) (hr : ∀ p ∈ pre, IsRun own top p.1 p.2) (ha : ∀ p ∈ pre, p.1 < b) (R : IsRun own top b m) (h : Lent a s pre f e r) :
    (b + m = f → Lent a s (pre ++ [(b, m)]) b e r) ∧ (b + m ≠ f → b = e → Lent a s (pre ++ [(b, m)]) f (b + m) r) ∧ (b + m ≠ f → b ≠ e → Lent a s (pre ++ [(b, m)]) f e (r ++ [(b, m)])) := by
  have R1 := R.r1
  -- b + m = f forces f = a; b = e forces e = a + s
  have kf : b + m = f → f = a ∧ (∀ p ∈ pre, p.1 + p.2 ≠ a) := fun q => by
    rcases h.ff with z | ⟨n, z, z'⟩
    · exact z
    · exfalso
      have := ha _ z
      have : f < b := this
      omega
  have ke : b = e → e = a + s ∧ (∀ p ∈ pre, p.1 ≠ a + s) := fun q => by
    rcases h.ee with z | ⟨n, z, z'⟩
    · exact z
    · exfalso
      have l : a + s < b := ha _ z
      have := (run_same (hr _ z) R (by show a + s ≤ b; omega) (by show b ≤ a + s + n; omega)).1
      have : a + s = b := this
      omega
  have na : b + m = a → b + m = f := fun q => by
    rcases h.ff with z | ⟨n, z, z'⟩
    · omega
    · exfalso
      have l : f < b := ha _ z
      have := (run_same (hr _ z) R (by show f ≤ b; omega) (by show b ≤ f + n; omega)).1
      have : f = b := this
      omega
  have ne : b = a + s → b = e := fun q => by
    rcases h.ee with z | ⟨n, z, z'⟩
    · omega
    · exfalso
      have l : a + s < b := ha _ z
      omega
  have fl : ∀ p : Int × Int, ((pre ++ [p]).filter fun p => decide (p.1 + p.2 ≠ a) && decide (p.1 ≠ a + s)) = r ++ (if p.1 + p.2 ≠ a ∧ p.1 ≠ a + s then [p] else []) := fun p => by
    rw [List.filter_append, h.rr]
    congr 1
    by_cases c : p.1 + p.2 ≠ a ∧ p.1 ≠ a + s
    · rw [if_pos c]
      simp [c]
    · rw [if_neg c]
      simp only [List.filter_cons, List.filter_nil]
      rw [if_neg]
      intro q
      apply c
      simpa using q
  refine ⟨fun q => ?_, fun q q' => ?_, fun q q' => ?_⟩
  · obtain ⟨z1, z2⟩ := kf q
    refine ⟨.inr ⟨m, by simp, by omega⟩, ?_, ?_⟩
    · rcases h.ee with ⟨z, z'⟩ | ⟨n, z, z'⟩
      · refine .inl ⟨z, fun p hp => ?_⟩
        rcases List.mem_append.mp hp with hp | hp
        · exact z' p hp
        · rw [List.mem_singleton.mp hp]; show b ≠ a + s; omega
      · exact .inr ⟨n, List.mem_append_left _ z, z'⟩
    · rw [fl, if_neg (by intro c; exact c.1 (by show b + m = a; omega)), List.append_nil]
  · obtain ⟨z1, z2⟩ := ke q'
    refine ⟨?_, .inr ⟨m, by rw [← z1, ← q']; simp, by omega⟩, ?_⟩
    · rcases h.ff with ⟨z, z'⟩ | ⟨n, z, z'⟩
      · refine .inl ⟨z, fun p hp => ?_⟩
        rcases List.mem_append.mp hp with hp | hp
        · exact z' p hp
        · rw [List.mem_singleton.mp hp]; show b + m ≠ a; omega
      · exact .inr ⟨n, List.mem_append_left _ z, z'⟩
    · rw [fl, if_neg (by intro c; exact c.2 (by show b = a + s; omega)), List.append_nil]
  · have n1 : b + m ≠ a := fun z => q (na z)
    have n2 : b ≠ a + s := fun z => q' (ne z)
    refine ⟨?_, ?_, ?_⟩
    · rcases h.ff with ⟨z, z'⟩ | ⟨n, z, z'⟩
      · refine .inl ⟨z, fun p hp => ?_⟩
        rcases List.mem_append.mp hp with hp | hp
        · exact z' p hp
        · rw [List.mem_singleton.mp hp]; exact n1
      · exact .inr ⟨n, List.mem_append_left _ z, z'⟩
    · rcases h.ee with ⟨z, z'⟩ | ⟨n, z, z'⟩
      · refine .inl ⟨z, fun p hp => ?_⟩
        rcases List.mem_append.mp hp with hp | hp
        · exact z' p hp
        · rw [List.mem_singleton.mp hp]; exact n2
      · exact .inr ⟨n, List.mem_append_left _ z, z'⟩
    · rw [fl, if_pos ⟨n1, n2⟩]

theorem pair_eq {p : Int × Int} {b m : Int} (h1 : p.1 = b) (h2 : p.2 = m) : p = (b, m) := Prod.ext h1 h2
/-- the row that comes of the block and what touches it -/
structure Merged (own own' : Int → Prop) (top a s f e : Int) : Prop where
  run : IsRun own' top f (e - f)
  lo : f ≤ a
  hi : a + s ≤ e
  iff : ∀ b r, IsRun own' top b r ↔ (IsRun own top b r ∧ b + r ≠ a ∧ b ≠ a + s) ∨ (b = f ∧ r = e - f)
theorem merged {own own' : Int → Prop} {top a s f e : Int} {ps r : List (Int × Int)} (he : ∀ w, own' w ↔ own w ∧ ¬ (a ≤ w ∧ w < a + s)) (ha : 1 ≤ a) (hs : 1 ≤ s) (ht : a + s ≤ top) (hb : ∀ w, a ≤ w → w < a + s → own w) (hlo : ∀ w, own w → 1 ≤ w ∧ w < top)
    (hleft : ∀ w, ¬ own w → 1 ≤ w → w < top → ∃ p ∈ ps, p.1 ≤ w ∧ w < p.1 + p.2)
    (c : Canon own top ps) (L : Lent a s ps f e r) : Merged own own' top a s f e := by
  have F : f ≤ a ∧ 1 ≤ f ∧ (∀ w, f ≤ w → w < a → ¬ own w) ∧ (f = 1 ∨ own (f - 1)) := by
    rcases L.ff with ⟨z, z'⟩ | ⟨m, z, z'⟩
    · subst z
      refine ⟨Int.le_refl _, ha, fun w x y => by omega, ?_⟩
      by_cases q : f = 1
      · exact .inl q
      · right
        apply Classical.byContradiction
        intro n
        obtain ⟨p, mp, x, y⟩ := hleft _ n (by omega) (by omega)
        have R := (c.mem p).mp mp
        rcases Int.lt_or_eq_of_le (show f ≤ p.1 + p.2 by omega) with l | l
        · exact R.free f (by omega) l (hb f (by omega) (by omega))
        · exact z' p mp l.symm
    · have R := (c.mem _).mp z
      have R1 : 1 ≤ m := R.r1
      have R2 : 1 ≤ f := R.b1
      exact ⟨by omega, R2, fun w x y => R.free w x (by show w < f + m; omega), R.left⟩
  have G : a + s ≤ e ∧ e ≤ top ∧ (∀ w, a + s ≤ w → w < e → ¬ own w) ∧ (e = top ∨ own e) := by
    rcases L.ee with ⟨z, z'⟩ | ⟨m, z, z'⟩
    · subst z
      refine ⟨Int.le_refl _, ht, fun w x y => by omega, ?_⟩
      by_cases q : a + s = top
      · exact .inl q
      · right
        apply Classical.byContradiction
        intro n
        obtain ⟨p, mp, x, y⟩ := hleft _ n (by omega) (by omega)
        have R := (c.mem p).mp mp
        rcases Int.lt_or_eq_of_le x with l | l
        · exact R.free (a + s - 1) (by omega) (by omega) (hb _ (by omega) (by omega))
        · exact z' p mp l
    · have R := (c.mem _).mp z
      have R1 : 1 ≤ m := R.r1
      have R2 : a + s + m ≤ top := R.ht
      exact ⟨by omega, by omega, fun w x y => R.free w x (by show w < a + s + m; omega), by rw [z']; exact R.right⟩
  obtain ⟨f1, f2, f3, f4⟩ := F
  obtain ⟨g1, g2, g3, g4⟩ := G
  have N : IsRun own' top f (e - f) := by
    refine ⟨f2, by omega, by omega, fun w x y q => ?_, f4.imp id fun q => (he _).mpr ⟨q, by omega⟩, ?_⟩
    · obtain ⟨q1, q2⟩ := (he w).mp q
      rcases Int.lt_or_le w a with l | l
      · exact f3 w x l q1
      · rcases Int.lt_or_le w (a + s) with l' | l'
        · exact q2 ⟨l, l'⟩
        · exact g3 w l' (by omega) q1
    · have z : f + (e - f) = e := by omega
      rw [z]
      exact g4.imp id fun q => (he _).mpr ⟨q, by omega⟩
  refine ⟨N, f1, g1, fun b r => ?_⟩
  constructor
  · intro h
    have h1 := h.b1
    have h2 := h.r1
    have h3 := h.ht
    by_cases q : b = f
    · subst q
      exact .inr ⟨rfl, (run_same h N (Int.le_refl _) (by omega)).2⟩
    · left
      have sep : b + r < f ∨ e < b := by
        rcases Int.lt_or_le (b + r) f with x | x
        · exact .inl x
        · rcases Int.lt_or_le e b with y | y
          · exact .inr y
          · exfalso
            rcases Int.le_total b f with z | z
            · exact q (run_same h N z x).1
            · exact q (run_same N h z (by omega)).1.symm
      refine ⟨⟨h1, h2, h3, fun w x y o => h.free w x y ((he w).mpr ⟨o, by omega⟩), h.left.imp id fun o => ((he _).mp o).1, h.right.imp id fun o => ((he _).mp o).1⟩, by omega, by omega⟩
  · rintro (⟨h, n1, n2⟩ | ⟨rfl, rfl⟩)
    · have h1 := h.b1
      have h2 := h.r1
      have h3 := h.ht
      refine ⟨h1, h2, h3, fun w x y o => h.free w x y ((he w).mp o).1, h.left.imp id fun o => (he _).mpr ⟨o, fun q => ?_⟩, h.right.imp id fun o => (he _).mpr ⟨o, fun q => ?_⟩⟩
      · exact h.free b (Int.le_refl _) (by omega) (hb b (by omega) (by omega))
      · exact h.free (b + r - 1) (by omega) (by omega) (hb _ (by omega) (by omega))
    · exact N

/-- every free word below the top lies in a piece -/
def Cover (own : Int → Prop) (top : Int) (ps : List (Int × Int)) : Prop := ∀ w, ¬ own w → 1 ≤ w → w < top → ∃ p ∈ ps, p.1 ≤ w ∧ w < p.1 + p.2
def Tight (own : Int → Prop) (top : Int) : Prop := top = 1 ∨ own (top - 1)
/-- t is the top lowered as far as free words go -/
structure TopAt (own : Int → Prop) (top t : Int) : Prop where
  t1 : 1 ≤ t
  le : t ≤ top
  ti : Tight own t
  fr : ∀ w, t ≤ w → w < top → ¬ own w
theorem topAt_le {own own' : Int → Prop} {top t t' : Int} (e : ∀ w, own w ↔ own' w) (h : TopAt own top t) (h' : TopAt own' top t') : t' ≤ t := by
  rcases h'.ti with q | q
  · have := h.t1; omega
  · apply Classical.byContradiction
    intro n
    exact h.fr (t' - 1) (by omega) (by have := h'.le; omega) ((e _).mpr q)
theorem topAt_unique {own own' : Int → Prop} {top t t' : Int} (e : ∀ w, own w ↔ own' w) (h : TopAt own top t) (h' : TopAt own' top t') : t = t' :=
  Int.le_antisymm (topAt_le (fun w => (e w).symm) h' h) (topAt_le e h h')

/-- the state of a heap: blocks, pieces, top; bump tells the policy -/
structure HOk (bump : Bool) (zs : List (Int × Int)) (ps : List (Int × Int)) (top : Int) : Prop where
  good : Good zs top
  can : Canon (Own zs) top ps
  cov : Cover (Own zs) top ps
  ti : bump = false → Tight (Own zs) top
theorem hok_start (bump : Bool) : HOk bump [] [] 1 := by
  refine ⟨⟨fun _ h => (by cases h), fun _ h => (by cases h), List.nodup_nil, Int.le_refl _⟩, ⟨List.Pairwise.nil, fun p => ⟨fun h => (by cases h), fun h => ?_⟩⟩, fun w _ h1 h2 => by omega, fun _ => .inl rfl⟩
  have := h.b1; have := h.r1; have := h.ht; omega
theorem hok_take_top {bump : Bool} {zs ps : List (Int × Int)} {top s : Int} (h : HOk bump zs ps top) (hs : 1 ≤ s) : HOk bump (zs ++ [(top, s)]) ps (top + s) := by
  obtain ⟨g, c⟩ := take_top h.good h.can hs
  refine ⟨g, c, fun w n h1 h2 => ?_, fun _ => .inr (own_snoc.mpr (.inr ⟨by omega, by omega⟩))⟩
  refine h.cov w (fun q => n (own_snoc.mpr (.inl q))) h1 ?_
  apply Classical.byContradiction
  intro z
  exact n (own_snoc.mpr (.inr ⟨by omega, h2⟩))
theorem hok_take_piece {bump : Bool} {zs A B : List (Int × Int)} {b room top s : Int} (h : HOk bump zs (A ++ (b, room) :: B) top) (hs : 1 ≤ s) (hr : s ≤ room) :
    HOk bump (zs ++ [(b, s)]) (A ++ (if room = s then [] else [(b + s, room - s)]) ++ B) top := by
  obtain ⟨g, c⟩ := take_piece h.good h.can hs hr
  refine ⟨g, c, fun w n h1 h2 => ?_, fun e => (h.ti e).imp id fun q => own_snoc.mpr (.inl q)⟩
  have n1 : ¬ Own zs w := fun q => n (own_snoc.mpr (.inl q))
  have n2 : ¬ (b ≤ w ∧ w < b + s) := fun q => n (own_snoc.mpr (.inr q))
  obtain ⟨p, mp, x, y⟩ := h.cov w n1 h1 h2
  rcases List.mem_append.mp mp with m | m
  · exact ⟨p, by simp [m], x, y⟩
  · rcases List.mem_cons.mp m with m | m
    · rw [m] at x y
      have x : b ≤ w := x
      have y : w < b + room := y
      refine ⟨(b + s, room - s), ?_, by show b + s ≤ w; omega, by show w < b + s + (room - s); omega⟩
      rw [if_neg (by omega)]
      simp
    · exact ⟨p, by simp [m], x, y⟩

theorem perm_asc {l m : List (Int × Int)} (h : l.Perm m) (hn : (m.map (·.1)).Nodup) (hs : l.Pairwise fun p q => ¬ (q.1 < p.1 ∨ (q.1 = p.1 ∧ q.2 < p.2))) : l.Pairwise fun p q => p.1 < q.1 := by
  have hn' : (l.map (·.1)).Nodup := (h.map (·.1)).nodup_iff.mpr hn
  have hn2 : l.Pairwise fun p q => p.1 ≠ q.1 := List.pairwise_map.mp hn'
  exact (hs.and hn2).imp fun {p q} z => by omega
/-- give: the pieces behind it, by the loop's finds and the sort -/
theorem hok_give {bump : Bool} {zs ps rest out : List (Int × Int)} {top a s f e top' : Int} (h : HOk bump zs ps top) (m : (a, s) ∈ zs) (L : Lent a s ps f e rest)
    (hout : out.Perm (if e = top ∧ bump = false then rest else rest ++ [(f, e - f)])) (hs : out.Pairwise fun p q => ¬ (q.1 < p.1 ∨ (q.1 = p.1 ∧ q.2 < p.2))) (htop : top' = if e = top ∧ bump = false then f else top) :
    HOk bump (dropA zs a) out top' ∧ (bump = false → TopAt (Own (dropA zs a)) top top') := by
  have hp := h.good.pos _ m
  have ha : 1 ≤ a := hp.1
  have h1 : 1 ≤ s := hp.2.1
  have ht : a + s ≤ top := hp.2.2
  have he : ∀ w, Own (dropA zs a) w ↔ Own zs w ∧ ¬ (a ≤ w ∧ w < a + s) := fun w => own_drop h.good m
  have M := merged he ha h1 ht (fun w x y => ⟨_, m, x, y⟩) (fun w o => own_lt h.good o) h.cov h.can L
  have Rr := M.run
  have f1 := Rr.b1
  have e1 := M.lo
  have e2 := M.hi
  have e3 := Rr.ht
  -- who is in rest
  have hr : ∀ p, p ∈ rest ↔ IsRun (Own zs) top p.1 p.2 ∧ p.1 + p.2 ≠ a ∧ p.1 ≠ a + s := fun p => by
    rw [L.rr, List.mem_filter, h.can.mem]
    simp
  have asc : rest.Pairwise fun p q => p.1 < q.1 := by rw [L.rr]; exact h.can.asc.sublist List.filter_sublist
  have ndr : (rest.map (·.1)).Nodup := List.pairwise_map.mpr (asc.imp fun {p q} z => by omega)
  have away : ∀ p ∈ rest, p.1 ≠ f := fun p mp q => by
    have R := (M.iff p.1 p.2).mpr (.inl ((hr p).mp mp))
    obtain ⟨z1, z2, z3⟩ := (hr p).mp mp
    have := (run_same R Rr (by omega) (by have := R.r1; omega)).2
    rcases Int.lt_or_le (p.1 + p.2) a with l | l
    · omega
    · exact z1.free a (by omega) (by omega) ⟨_, m, Int.le_refl _, by show a < a + s; omega⟩
  have cov1 : ∀ w, ¬ Own (dropA zs a) w → 1 ≤ w → w < top → (∃ p ∈ rest, p.1 ≤ w ∧ w < p.1 + p.2) ∨ (f ≤ w ∧ w < e) := fun w n x y => by
    by_cases q : f ≤ w ∧ w < e
    · exact .inr q
    · left
      have n1 : ¬ Own zs w := fun o => n ((he w).mpr ⟨o, by omega⟩)
      obtain ⟨p, mp, x1, y1⟩ := h.cov w n1 x y
      have R := (h.can.mem p).mp mp
      refine ⟨p, (hr p).mpr ⟨R, fun z => ?_, fun z => ?_⟩, x1, y1⟩
      · rcases L.ff with ⟨_, k⟩ | ⟨m', k, k'⟩
        · exact k p mp z
        · have R' := (h.can.mem _).mp k
          have r1 : 1 ≤ m' := R'.r1
          rcases Int.le_total p.1 f with l | l
          · have := (run_same R R' l (by show f ≤ p.1 + p.2; omega)).1
            have : p.1 = f := this
            omega
          · omega
      · rcases L.ee with ⟨_, k⟩ | ⟨m', k, k'⟩
        · exact k p mp z
        · have R' := (h.can.mem _).mp k
          have z2 := (run_same R R' (by show p.1 ≤ a + s; omega) (by show a + s ≤ p.1 + p.2; have := R.r1; omega)).2
          have z2 : p.2 = m' := z2
          omega
  by_cases hc : e = top ∧ bump = false
  · obtain ⟨hc1, hc2⟩ := hc
    rw [if_pos ⟨hc1, hc2⟩] at hout htop
    subst htop
    have T : TopAt (Own (dropA zs a)) top top' := ⟨f1, by omega, Rr.left, fun w x y => Rr.free w x (by omega)⟩
    refine ⟨⟨good_drop h.good f1 fun p mp => ?_, ⟨perm_asc hout ndr hs, fun p => hout.mem_iff.trans ((hr p).trans ?_)⟩, fun w n x y => ?_, fun _ => Rr.left⟩, fun _ => T⟩
    · have := h.good.pos p (List.mem_filter.mp mp).1
      apply Classical.byContradiction
      intro z
      exact T.fr (p.1 + p.2 - 1) (by omega) (by omega) ⟨p, mp, by omega, by omega⟩
    · constructor
      · rintro ⟨R, n1, n2⟩
        have R' := (M.iff p.1 p.2).mpr (.inl ⟨R, n1, n2⟩)
        have r1 := R.r1
        have r2 := R.ht
        have nf : p.1 ≠ top' := fun q => away p ((hr p).mpr ⟨R, n1, n2⟩) q
        have lt : p.1 + p.2 < top' := by
          rcases Int.lt_or_le (p.1 + p.2) top' with l | l
          · exact l
          · exfalso
            rcases Int.le_total p.1 top' with z | z
            · exact nf (run_same R' Rr z l).1
            · exact nf (run_same Rr R' z (by omega)).1.symm
        exact ⟨R.b1, r1, by omega, R'.free, R'.left, R'.right.elim (fun q => by omega) .inr⟩
      · intro R
        have r0 := R.b1
        have r1 := R.r1
        have r2 := R.ht
        have R' : IsRun (Own (dropA zs a)) top p.1 p.2 := by
          refine ⟨R.b1, R.r1, by omega, R.free, R.left, ?_⟩
          rcases R.right with q | q
          · rcases Rr.left with z | z
            · omega
            · exact absurd z (R.free _ (by omega) (by omega))
          · exact .inr q
        rcases (M.iff p.1 p.2).mp R' with z | z
        · exact z
        · omega
    · rcases cov1 w n x (by omega) with ⟨p, mp, k⟩ | k
      · exact ⟨p, hout.mem_iff.mpr mp, k⟩
      · omega
  · rw [if_neg hc] at hout htop
    subst htop
    have nd2 : ((rest ++ [(f, e - f)]).map (·.1)).Nodup := by
      rw [List.map_append]
      refine nodup_snoc ndr fun q => ?_
      obtain ⟨p, mp, z⟩ := List.mem_map.mp q
      exact away p mp z
    have tight : bump = false → Tight (Own (dropA zs a)) top' := fun hb => by
      right
      have n : e ≠ top' := fun q => hc ⟨q, hb⟩
      apply Classical.byContradiction
      intro q
      rcases h.ti hb with z | z
      · omega
      · have : ¬ (a ≤ top' - 1 ∧ top' - 1 < a + s) := by omega
        exact q ((he _).mpr ⟨z, this⟩)
    refine ⟨⟨good_drop h.good h.good.top1 fun p mp => (h.good.pos p (List.mem_filter.mp mp).1).2.2, ⟨perm_asc hout nd2 hs, fun p => hout.mem_iff.trans ?_⟩, fun w n x y => ?_, tight⟩, fun hb => ⟨h.good.top1, Int.le_refl _, tight hb, fun w x y => by omega⟩⟩
    · rw [M.iff, List.mem_append, hr]
      refine or_congr Iff.rfl ?_
      constructor
      · intro q
        rw [List.mem_singleton.mp q]
        exact ⟨rfl, rfl⟩
      · rintro ⟨z1, z2⟩
        rw [pair_eq z1 z2]
        simp
    · rcases cov1 w n x y with ⟨p, mp, k⟩ | k
      · exact ⟨p, hout.mem_iff.mpr (List.mem_append_left _ mp), k⟩
      · exact ⟨(f, e - f), hout.mem_iff.mpr (by simp), k.1, by show w < f + (e - f); omega⟩

/-! ### the rows of free words, word by word -/
theorem runs_nil (own : Int → Prop) : Canon own 1 [] ∧ Cover own 1 [] := by
  refine ⟨⟨List.Pairwise.nil, fun p => ⟨fun h => (by cases h), fun h => ?_⟩⟩, fun w _ h1 h2 => by omega⟩
  have := h.b1; have := h.r1; have := h.ht; omega
theorem runs_own {own : Int → Prop} {k : Int} {f : List (Int × Int)} (o : own k) (c : Canon own k f) (v : Cover own k f) : Canon own (k + 1) f ∧ Cover own (k + 1) f := by
  refine ⟨⟨c.asc, fun p => (c.mem p).trans ⟨fun h => ?_, fun h => ?_⟩⟩, fun w n x y => ?_⟩
  · refine ⟨h.b1, h.r1, by have := h.ht; omega, h.free, h.left, .inr ?_⟩
    rcases h.right with q | q
    · rw [q]; exact o
    · exact q
  · have h1 := h.r1
    have h2 := h.ht
    have h3 : p.1 + p.2 ≠ k + 1 := fun q => h.free k (by omega) (by omega) o
    exact ⟨h.b1, h.r1, by omega, h.free, h.left, h.right.elim (fun q => absurd q h3) .inr⟩
  · have : w ≠ k := fun q => n (by rw [q]; exact o)
    exact v w n x (by omega)
theorem runs_grow {own : Int → Prop} {k b r : Int} {f0 : List (Int × Int)} (o : ¬ own k) (e : b + r = k) (c : Canon own k (f0 ++ [(b, r)])) (v : Cover own k (f0 ++ [(b, r)])) :
    Canon own (k + 1) (f0 ++ [(b, r + 1)]) ∧ Cover own (k + 1) (f0 ++ [(b, r + 1)]) := by
  obtain ⟨a1, a2, a3⟩ := List.pairwise_append.mp c.asc
  have R : IsRun own k b r := (c.mem (b, r)).mp (by simp)
  have lt : ∀ p ∈ f0, p.1 < b := fun p m => a3 p m (b, r) (by simp)
  have R' : IsRun own (k + 1) b (r + 1) := by
    refine ⟨R.b1, by have := R.r1; omega, by omega, fun w x y => ?_, R.left, .inl (by omega)⟩
    by_cases q : w = k
    · rw [q]; exact o
    · exact R.free w x (by omega)
  refine ⟨⟨List.pairwise_append.mpr ⟨a1, by simp, fun p m q mq => ?_⟩, fun p => ⟨fun m => ?_, fun h => ?_⟩⟩, fun w n x y => ?_⟩
  · rw [List.mem_singleton.mp mq]; exact lt p m
  · rcases List.mem_append.mp m with m | m
    · have h := (c.mem p).mp (List.mem_append_left _ m)
      have l := lt p m
      have l2 : p.1 + p.2 < b := by
        rcases Int.lt_or_le (p.1 + p.2) b with q | q
        · exact q
        · have := (run_same h R (by omega) q).1; omega
      exact ⟨h.b1, h.r1, by have := h.ht; omega, h.free, h.left, h.right.elim (fun q => by have := R.r1; omega) .inr⟩
    · rw [List.mem_singleton.mp m]; exact R'
  · have h1 := h.b1
    have h2 := h.r1
    have h3 := h.ht
    by_cases q : p.1 + p.2 = k + 1
    · have : p.1 = b ∧ p.2 = r + 1 := by
        rcases Int.le_total p.1 b with z | z
        · exact run_same h R' z (by have := R.r1; omega)
        · have := run_same R' h z (by omega)
          exact ⟨this.1.symm, this.2.symm⟩
      rw [pair_eq this.1 this.2]
      simp
    · have hk : IsRun own k p.1 p.2 := ⟨h1, h2, by omega, h.free, h.left, h.right.elim (fun z => absurd z q) .inr⟩
      rcases List.mem_append.mp ((c.mem p).mpr hk) with m | m
      · exact List.mem_append_left _ m
      · exfalso
        rw [List.mem_singleton.mp m] at h q
        rcases h.right with z | z
        · exact q z
        · have z : own (b + r) := z
          rw [e] at z
          exact o z
  · by_cases q : w = k
    · exact ⟨(b, r + 1), by simp, by show b ≤ w; have := R.r1; omega, by show w < b + (r + 1); omega⟩
    · obtain ⟨p, m, x1, y1⟩ := v w n x (by omega)
      rcases List.mem_append.mp m with m | m
      · exact ⟨p, List.mem_append_left _ m, x1, y1⟩
      · rw [List.mem_singleton.mp m] at x1 y1
        have y1 : w < b + r := y1
        exact ⟨(b, r + 1), by simp, x1, by show w < b + (r + 1); omega⟩
theorem runs_new {own : Int → Prop} {k : Int} {f : List (Int × Int)} (hk : 1 ≤ k) (o : ¬ own k) (e : ∀ p ∈ f, p.1 + p.2 ≠ k) (c : Canon own k f) (v : Cover own k f) :
    Canon own (k + 1) (f ++ [(k, 1)]) ∧ Cover own (k + 1) (f ++ [(k, 1)]) := by
  have R' : IsRun own (k + 1) k 1 := by
    refine ⟨hk, Int.le_refl _, Int.le_refl _, fun w x y => ?_, ?_, .inl rfl⟩
    · have : w = k := by omega
      rw [this]; exact o
    · by_cases q : k = 1
      · exact .inl q
      · right
        apply Classical.byContradiction
        intro n
        obtain ⟨p, m, x, y⟩ := v (k - 1) n (by omega) (by omega)
        have := ((c.mem p).mp m).ht
        exact e p m (by omega)
  refine ⟨⟨List.pairwise_append.mpr ⟨c.asc, by simp, fun p m q mq => ?_⟩, fun p => ⟨fun m => ?_, fun h => ?_⟩⟩, fun w n x y => ?_⟩
  · rw [List.mem_singleton.mp mq]
    have h := (c.mem p).mp m
    have := h.r1; have := h.ht
    show p.1 < k
    omega
  · rcases List.mem_append.mp m with m | m
    · have h := (c.mem p).mp m
      exact ⟨h.b1, h.r1, by have := h.ht; omega, h.free, h.left, h.right.elim (fun q => absurd q (e p m)) .inr⟩
    · rw [List.mem_singleton.mp m]; exact R'
  · have h1 := h.b1
    have h2 := h.r1
    have h3 := h.ht
    by_cases q : p.1 + p.2 = k + 1
    · have : p.1 = k ∧ p.2 = 1 := by
        rcases Int.le_total p.1 k with z | z
        · exact run_same h R' z (by omega)
        · have := run_same R' h z (by omega)
          exact ⟨this.1.symm, this.2.symm⟩
      rw [pair_eq this.1 this.2]
      simp
    · exact List.mem_append_left _ ((c.mem p).mpr ⟨h1, h2, by omega, h.free, h.left, h.right.elim (fun z => absurd z q) .inr⟩)
  · by_cases q : w = k
    · exact ⟨(k, 1), by simp, by show k ≤ w; omega, by show w < k + 1; omega⟩
    · obtain ⟨p, m, x1, y1⟩ := v w n x (by omega)
      exact ⟨p, List.mem_append_left _ m, x1, y1⟩
/-- the last row does not end at k: then none does -/
theorem last_ends {own : Int → Prop} {k b r : Int} {f0 : List (Int × Int)} (c : Canon own k (f0 ++ [(b, r)])) (e : b + r ≠ k) : ∀ p ∈ f0 ++ [(b, r)], p.1 + p.2 ≠ k := fun p m q => by
  obtain ⟨a1, a2, a3⟩ := List.pairwise_append.mp c.asc
  have R : IsRun own k b r := (c.mem (b, r)).mp (by simp)
  have h := (c.mem p).mp m
  rcases List.mem_append.mp m with m | m
  · have l := a3 p m (b, r) (by simp)
    have l : p.1 < b := l
    have := R.ht
    have := R.r1
    have := (run_same h R (by omega) (by omega)).1
    omega
  · rw [List.mem_singleton.mp m] at q
    exact e q

/-! ### which piece is taken -/
inductive Pol where
  | first | best | next | bump
  deriving DecidableEq
def Picked (pol : Pol) (last size : Int) (ps : List (Int × Int)) : Option (Int × Int) → Prop
  | none => pol = .bump ∨ ∀ q ∈ ps, q.2 < size
  | some p => pol ≠ .bump ∧ p ∈ ps ∧ size ≤ p.2 ∧
      (pol = .first → ∀ q ∈ ps, size ≤ q.2 → p.1 ≤ q.1) ∧
      (pol = .best → ∀ q ∈ ps, size ≤ q.2 → p.2 < q.2 ∨ (p.2 = q.2 ∧ p.1 ≤ q.1)) ∧
      (pol = .next → (last ≤ p.1 ∧ ∀ q ∈ ps, size ≤ q.2 → last ≤ q.1 → p.1 ≤ q.1) ∨ ((∀ q ∈ ps, size ≤ q.2 → q.1 < last) ∧ ∀ q ∈ ps, size ≤ q.2 → p.1 ≤ q.1))
theorem picked_unique {pol : Pol} {last size : Int} {ps : List (Int × Int)} : ∀ {o o' : Option (Int × Int)}, Picked pol last size ps o → Picked pol last size ps o' → o.map (·.1) = o'.map (·.1)
  | none, none, _, _ => rfl
  | none, some p, h, h' => by
    rcases h with q | q
    · exact absurd q h'.1
    · have := q p h'.2.1; have := h'.2.2.1; omega
  | some p, none, h', h => by
    rcases h with q | q
    · exact absurd q h'.1
    · have := q p h'.2.1; have := h'.2.2.1; omega
  | some p, some p', ⟨nb, m, hs, f1, f2, f3⟩, ⟨_, m', hs', g1, g2, g3⟩ => by
    show some p.1 = some p'.1
    congr 1
    cases pol with
    | first =>
      have := f1 rfl p' m' hs'; have := g1 rfl p m hs; omega
    | best =>
      have := f2 rfl p' m' hs'; have := g2 rfl p m hs; omega
    | next =>
      rcases f3 rfl with ⟨a, b⟩ | ⟨a, b⟩ <;> rcases g3 rfl with ⟨c, d⟩ | ⟨c, d⟩
      · have := b p' m' hs' c; have := d p m hs a; omega
      · have := c p m hs; omega
      · have := a p' m' hs'; omega
      · have := b p' m' hs'; have := d p m hs; omega
    | bump => exact absurd rfl nb

/-! ### sizes -/
theorem size_eq {u many s : Int} (hu : u = 1 ∨ u = 2 ∨ u = 4 ∨ u = 8) (h1 : s % u = 0) (h2 : u ≤ s) (h3 : s = u ∨ s < many + u) (h4 : many ≤ s) :
    ((if many > 1 then many else 1) + u - 1) / u * u = s := by
  rcases hu with rfl | rfl | rfl | rfl <;> split <;> omega
theorem size_step {u s : Int} (hu : u = 1 ∨ u = 2 ∨ u = 4 ∨ u = 8) (h1 : s % u = 0) : (s + u) % u = 0 := by
  rcases hu with rfl | rfl | rfl | rfl <;> omega
theorem size_le {u many : Int} (hu : u = 1 ∨ u = 2 ∨ u = 4 ∨ u = 8) (h0 : 0 ≤ many) (h1 : many ≤ 40) : 1 ≤ ((if many > 1 then many else 1) + u - 1) / u * u ∧ ((if many > 1 then many else 1) + u - 1) / u * u ≤ 48 := by
  rcases hu with rfl | rfl | rfl | rfl <;> split <;> omega

/-! ### looking up -/
def look (zs : List (Int × Int)) (a : Int) : Option Int := (zs.find? fun p => decide (p.1 = a)).map (·.2)
theorem look_some {zs : List (Int × Int)} {a s : Int} (h : look zs a = some s) : (a, s) ∈ zs := by
  unfold look at h
  cases e : zs.find? fun p => decide (p.1 = a) with
  | none => rw [e] at h; cases h
  | some p =>
    rw [e] at h
    have h1 : p.1 = a := by simpa using List.find?_some e
    have h2 : p.2 = s := Option.some.inj h
    rw [← pair_eq h1 h2]
    exact List.mem_of_find?_eq_some e
theorem look_none {zs : List (Int × Int)} {a : Int} (h : look zs a = none) : a ∉ zs.map (·.1) := by
  intro m
  obtain ⟨p, mp, e⟩ := List.mem_map.mp m
  unfold look at h
  cases q : zs.find? fun p => decide (p.1 = a) with
  | none =>
    have := List.find?_eq_none.mp q p mp
    simp [e] at this
  | some p' => rw [q] at h; cases h
theorem nodup_fst : ∀ {zs : List (Int × Int)} {a s s' : Int}, (zs.map (·.1)).Nodup → (a, s) ∈ zs → (a, s') ∈ zs → s = s'
  | [], _, _, _, _, m, _ => by cases m
  | p :: r, a, s, s', h, m, m' => by
    obtain ⟨h1, h2⟩ := List.nodup_cons.mp (show (p.1 :: r.map (·.1)).Nodup from h)
    rcases List.mem_cons.mp m with e | m <;> rcases List.mem_cons.mp m' with e' | m'
    · rw [← e'] at e; exact congrArg Prod.snd e
    · rw [← e] at h1; exact absurd (List.mem_map.mpr ⟨_, m', rfl⟩) h1
    · rw [← e'] at h1; exact absurd (List.mem_map.mpr ⟨_, m, rfl⟩) h1
    · exact nodup_fst h2 m m'
theorem look_mem {zs : List (Int × Int)} {a s : Int} (hn : (zs.map (·.1)).Nodup) (m : (a, s) ∈ zs) : look zs a = some s := by
  cases e : look zs a with
  | none => exact absurd (List.mem_map.mpr ⟨_, m, rfl⟩) (look_none e)
  | some s' => rw [nodup_fst hn m (look_some e)]
theorem look_key {zs : List (Int × Int)} {a : Int} (m : a ∈ zs.map (·.1)) : ∃ s, look zs a = some s := by
  cases e : look zs a with
  | none => exact absurd m (look_none e)
  | some s => exact ⟨s, rfl⟩
/-- two sorted rows of the same keys are one -/
theorem keys_unique {ks ys ys' : List Int} (hn : ks.Nodup) (p : ys.Perm ks) (p' : ys'.Perm ks) (h : ys.Pairwise (· ≤ ·)) (h' : ys'.Pairwise (· ≤ ·)) : ys = ys' := by
  have st : ∀ {l : List Int}, l.Perm ks → l.Pairwise (· ≤ ·) → l.Pairwise (· < ·) := fun {l} q z =>
    (z.and (List.nodup_iff_pairwise_ne.mp (q.nodup_iff.mpr hn))).imp fun {a b} w => by omega
  exact sorted_ext (r := (· < ·)) (fun _ => Int.lt_irrefl _) (fun _ _ x y => Int.lt_irrefl _ (Int.lt_trans x y)) (st p h) (st p' h') fun x => p.mem_iff.trans p'.mem_iff.symm

/-! ### rows by turns -/
theorem tf_step {α : Type} {l : List α} {i : Nat} {x : α} (P : α → Bool) (h : l[i]? = some x) : (l.take (i + 1)).filter P = (l.take i).filter P ++ (if P x = true then [x] else []) := by
  rw [List.take_add_one, h, List.filter_append]
  congr 1
  show [x].filter P = _
  rw [List.filter_cons]
  split <;> rfl
theorem tm_step {α β : Type} {l : List α} {i : Nat} {x : α} (f : α → β) (h : l[i]? = some x) : (l.take (i + 1)).map f = (l.take i).map f ++ [f x] := by
  rw [List.take_add_one, h, List.map_append]
  rfl
theorem rf_step (n : Nat) (P : Nat → Bool) : (List.range (n + 1)).filter P = (List.range n).filter P ++ (if P n = true then [n] else []) := by
  rw [List.range_succ, List.filter_append]
  congr 1
  rw [List.filter_cons]
  split <;> rfl
theorem rng_head {n : Nat} {P : Nat → Bool} {i : Nat} {t : List Nat} (h : (List.range n).filter P = i :: t) : i < n ∧ P i = true ∧ ∀ j, j < n → P j = true → i ≤ j := by
  have mi : i ∈ (List.range n).filter P := by rw [h]; simp
  have pw : ((List.range n).filter P).Pairwise (· < ·) := List.pairwise_lt_range.sublist List.filter_sublist
  rw [h] at pw
  obtain ⟨m1, m2⟩ := List.mem_filter.mp mi
  refine ⟨List.mem_range.mp m1, m2, fun j hj hP => ?_⟩
  have mj : j ∈ (List.range n).filter P := List.mem_filter.mpr ⟨List.mem_range.mpr hj, hP⟩
  rw [h] at mj
  rcases List.mem_cons.mp mj with e | m
  · omega
  · exact Nat.le_of_lt ((List.pairwise_cons.mp pw).1 j m)
end OO
/-! Two rules that the hand layer lacks: an attribute as a target in a tuple; sorted of a dict with int keys, any number of them. -/
namespace OW
open PySem PySem.Spec PyProof.Rows L2
section
variable {X : Cx}
def gFld (K : PySem.W.Frag) (to : TE) (f : Str) : TG := fun v σ H Q => to σ H fun x H1 => ∃ a C dx fs, x = .ref a ∧ H1 a = some (.ins C dx fs) ∧ Cls K C ∧ NoAttr K C f ∧ fs.length < 1000 ∧ Q σ (upd H1 a (.ins C dx (putF f v fs)))
theorem pg_fld {o : Expr} {f : Str} {pos : Pos} {to : TE} (ho : PE X o to) : PG X (.Attribute o f pos) (gFld X.K to f) := by
  refine ⟨fun pins s σ H v u Q I r h => ?_⟩
  rw [assign_Attribute]
  refine wpAny_bind (wpAny_holding (thn (ho.run pins s σ H _ I h) fun ov s1 ⟨x, H1, I1, r1, a, C, dx, fs, ex, ea, c, n, l, q⟩ => ?_))
  subst ex
  obtain rfl : ov = Value.ref a := r1
  refine wpAny_bind (wpAny_standAt (wpAny_bind (wpAny_holding (setattr_ok I1 ea c n l r fun s3 I3 => ?_))))
  exact wpAny_release ⟨σ, _, I3, q⟩
/-- within a comprehension's block: K named -/
theorem pe_fldK {K : PySem.W.Frag} {e : Expr} {f : Str} {pos : Pos} {ta : TE} (hk : X.K = K) (he : PE X e ta) (hb : attributeBase e f X.env (eval e X.env) = eval e X.env) : PE X (.Attribute e f pos) (tFld K ta f) := by
  subst hk
  exact pe_fld he hb
theorem ix_listK {K : PySem.W.Frag} (hk : X.K = K) : IxR X (rIxL K) := by
  subst hk
  exact ix_list
theorem ix_tupK {K : PySem.W.Frag} (hk : X.K = K) : IxR X (rIxT K) := by
  subst hk
  exact ix_tup
/-- what was drawn from a dict of ints is its keys -/
theorem drawn_ints {Pr : Program} {wd : World} {vs : List (Key × Value)} {ks : List Int} {arr : Array Value} (keys : vs.map Prod.fst = ks.map Sum.inl) (size : arr.size = vs.length)
    (each : ∀ (n : Nat) (v : Value), arr[n]? = some v → ∃ (k : Key) (x : Value), vs[n]? = some (k, x) ∧ (mixKind Pr wd).is k v = true) : IntsAre arr.toList ks := by
  have len : vs.length = ks.length := by simpa using congrArg List.length keys
  refine ints_each (by simp [size, len]) fun n v at_n => ?_
  obtain ⟨k, x, here, isk⟩ := each n v (by simpa using at_n)
  have both : (vs.map Prod.fst)[n]? = (ks.map Sum.inl)[n]? := by rw [keys]
  simp only [List.getElem?_map, here, Option.map_some] at both
  obtain ⟨m, em, ek⟩ := Option.map_eq_some_iff.mp both.symm
  subst ek
  rw [mixKind_is] at isk
  rcases keyIs_shape isk with ⟨_, tok, hh, hv⟩ | ⟨_, _, hh, _⟩
  · cases hh; exact ⟨m, tok, em, hv⟩
  · cases hh
/-- sorted of a dict with int keys, whatever their number -/
def rSortKeys : List V → Hp → VK → Prop := fun xs H Q => ∃ (a : Addr) (kvs : List (Key × V)) (ks : List Int), xs = [.ref a] ∧ Rd H a (.dK kvs) ∧ kvs.map (·.1) = ks.map Sum.inl ∧
  ∀ (ys : List Int) (p : Addr), ys.Perm ks → ys.Pairwise (· ≤ ·) → H p = none → Q (.ref p) (upd H p (.lst (ys.map V.int)))
theorem call_sortedDA (calm : X.calm = true) : CallR X (.builtin "sorted") rSortKeys := by
  rintro pins s σ H xs us Q I rel ⟨a, kvs, ks, rfl, rd, keys, goes⟩
  obtain ⟨_, rfl, rfl⟩ := vals1 rel
  obtain ⟨few, plainD, vs, kv, isD⟩ := dk_rd I.hok rd
  have keysV : vs.map Prod.fst = ks.map Sum.inl := kv.keys.symm.trans keys
  have lenK : vs.length = ks.length := by simpa using congrArg List.length keysV
  have lenV : vs.length = kvs.length := by rw [lenK]; simpa using (congrArg List.length keys).symm
  obtain ⟨ents, laid⟩ := isD.dictAt
  refine Calls.call_function_entry PyProof.Rows.kind_sorted PyProof.Rows.plain_sorted PyProof.Rows.entry_sorted (PyProof.Rows.args_sorted1 _) ?_
  unfold Builtin.«sorted»
  refine wpAny_bind (m := checkCount "sorted" 1 1 _) (wpAny_pure (wpAny_bind ?_))
  refine PySem.W.kdu_collect (A := X.A.in1) (PySem.W.kdl_dict (knd := mixKind X.prog X.w) (kvs := vs) (ep := ents) plainD) (I.ok.hd calm) laid (by omega) fun g toks arr old got => ?_
  have allI : IntsAre arr.toList ks := drawn_ints keysV got.1 got.2
  have room : arr.toList.length ≤ sizeLine := by rw [Array.length_toList, got.1]; omega
  have J : Inv X pins σ H { s with heap := g, toks := toks } := I.kept old
  refine wpAny_bind (wpAny_newList ?_ room)
  have new : (g.push (seqObj "list" arr.toList.toArray 0)).get? g.objs.size = some (seqObj "list" arr.toList.toArray 0) := Heap.get?_push_size _ rfl
  refine wpAny_bind (wpAny_holding (wpAny_call_entry PyProof.Rows.slot_list_sort ⟨_, new, rfl⟩ PyProof.Rows.entry_list_sort (SrtO.list_sort_ord SrtO.swo_int new room (fun two => SrtO.ints_sortable allI two)
    fun out up st => ⟨_, rfl, ?_⟩) (PyProof.Rows.args_list_sort _)))
  obtain ⟨allO, perm, rise⟩ := SrtO.ints_out allI up st
  obtain ⟨cap, stands⟩ := PyProof.Rows.sortedHeap_at (vs := arr.toList) (out := out.toArray) new
  have long : ((out.map SrtO.iv).map V.int).length ≤ sizeLine := by rw [List.length_map, perm.length_eq, ← lenK, lenV]; exact few
  have put : ObjOk X.prog X.w (upd H g.objs.size (.lst ((out.map SrtO.iv).map V.int))) _ g.objs.size (.lst ((out.map SrtO.iv).map V.int)) := ⟨long, out, cap, vals_of_ints allO, stands⟩
  refine wpAny_pure ⟨_, rfl, .ref g.objs.size, _, J.laid (t' := toks) (fun b o there => ?_) (Nat.le_refl _) put, rfl, goes _ _ perm rise (J.hok.fresh (Nat.le_refl _))⟩
  have low : b < g.objs.size := Heap.lt_size there
  rw [PyProof.Rows.sortedHeap_old (Nat.ne_of_lt low) (by rw [size_push']; exact Nat.lt_succ_of_lt low)]
  exact Heap.get?_push_of_some _ there
end
end OW
/-! The text by places, the data: what a Heap, the model and the draws look like between two calls. -/
namespace OW
open PySem PySem.Spec PyProof.Rows L2 OO
def top (i : Nat) : Stmt := PySem.Challenge.pw_oneowner_k85_whole_heaps_by_their_words.main.body.getD i (.Pass ⟨0, 0, 0, 0⟩)
abbrev sInit : Stmt := inClass (top 1) 0
abbrev sBlocks : Stmt := inClass (top 1) 1
abbrev sPieces : Stmt := inClass (top 1) 2
abbrev sTop : Stmt := inClass (top 1) 3
abbrev sSize : Stmt := inClass (top 1) 4
abbrev sTake : Stmt := inClass (top 1) 5
abbrev sChosen : Stmt := inClass (top 1) 6
abbrev sGive : Stmt := inClass (top 1) 7
abbrev sDraws : Stmt := top 3
abbrev sReader : Stmt := top 4
abbrev sNext : Stmt := top 5
abbrev sRuns : Stmt := top 6
abbrev sFits : Stmt := top 7
abbrev sLChosen : Stmt := top 8
abbrev sLTake : Stmt := top 9
abbrev sLGive : Stmt := top 10
abbrev sTold : Stmt := top 11
abbrev sDeed : Stmt := top 12
abbrev sLaw : Stmt := top 13

/-! ### pairs as tuples -/
abbrev Row := List (Addr × Int × Int)
def refs (L : Row) : List V := L.map fun e => V.ref e.1
def prs (L : Row) : List (Int × Int) := L.map fun e => e.2
def PL (H : Hp) (L : Row) : Prop := ∀ e ∈ L, H e.1 = some (.tup [.int e.2.1, .int e.2.2])
theorem PL.same {H H' : Hp} {L : Row} (h : PL H L) (s : ∀ b xs, H b = some (.tup xs) → H' b = some (.tup xs)) : PL H' L := fun e m => s _ _ (h e m)
theorem PL.sub {H : Hp} {L L' : Row} (h : PL H L) (s : ∀ e ∈ L', e ∈ L) : PL H L' := fun e m => h e (s e m)
theorem PL.app {H : Hp} {L L' : Row} (h : PL H L) (h' : PL H L') : PL H (L ++ L') := fun e m => (List.mem_append.mp m).elim (h e) (h' e)
theorem refs_length (L : Row) : (refs L).length = L.length := List.length_map _
theorem prs_length (L : Row) : (prs L).length = L.length := List.length_map _
theorem refs_get {L : Row} {i : Nat} {x : V} (h : (refs L)[i]? = some x) : ∃ t b r, L[i]? = some (t, b, r) ∧ x = .ref t := by
  unfold refs at h
  rw [List.getElem?_map] at h
  cases e : L[i]? with
  | none => rw [e] at h; cases h
  | some z => rw [e] at h; obtain ⟨t, b, r⟩ := z; exact ⟨t, b, r, rfl, (Option.some.inj h).symm⟩
theorem get_refs {L : Row} {i : Nat} {t : Addr} {b r : Int} (h : L[i]? = some (t, b, r)) : (refs L)[i]? = some (.ref t) := by
  unfold refs; rw [List.getElem?_map, h]; rfl
theorem get_prs {L : Row} {i : Nat} {t : Addr} {b r : Int} (h : L[i]? = some (t, b, r)) : (prs L)[i]? = some (b, r) := by
  unfold prs; rw [List.getElem?_map, h]; rfl
theorem mem_get {α : Type} {l : List α} {i : Nat} {x : α} (h : l[i]? = some x) : x ∈ l := List.mem_of_getElem? h
theorem get_lt {α : Type} {l : List α} {i : Nat} {x : α} (h : l[i]? = some x) : i < l.length := (List.getElem?_eq_some_iff.mp h).1

/-! ### the policies -/
def ps : Pol → Str
  | .first => "first"
  | .best => "best"
  | .next => "next"
  | .bump => "bump"
def isBump (p : Pol) : Bool := decide (p = .bump)
theorem ps_bump (p : Pol) : decide (V.str (ps p) = V.str "bump") = isBump p := by cases p <;> decide +kernel
theorem ps_best (p : Pol) : decide (V.str (ps p) = V.str "best") = decide (p = .best) := by cases p <;> decide +kernel
theorem ps_next (p : Pol) : decide (V.str (ps p) = V.str "next") = decide (p = .next) := by cases p <;> decide +kernel

/-! ### the fields of a Heap -/
def flds (p : Pol) (u : Int) (d l : Addr) (t la : Int) : List (Str × V) := [("_policy", .str (ps p)), ("_unit", .int u), ("_sizes", .ref d), ("_pieces", .ref l), ("_top", .int t), ("_last", .int la)]
theorem sne : ¬ (("_policy" : Str) = "_unit") ∧ ¬ (("_policy" : Str) = "_sizes") ∧ ¬ (("_policy" : Str) = "_pieces") ∧ ¬ (("_policy" : Str) = "_top") ∧ ¬ (("_policy" : Str) = "_last")
    ∧ ¬ (("_unit" : Str) = "_sizes") ∧ ¬ (("_unit" : Str) = "_pieces") ∧ ¬ (("_unit" : Str) = "_top") ∧ ¬ (("_unit" : Str) = "_last")
    ∧ ¬ (("_sizes" : Str) = "_pieces") ∧ ¬ (("_sizes" : Str) = "_top") ∧ ¬ (("_sizes" : Str) = "_last")
    ∧ ¬ (("_pieces" : Str) = "_top") ∧ ¬ (("_pieces" : Str) = "_last") ∧ ¬ (("_top" : Str) = "_last") := by decide +kernel
theorem look_cons {g f : Str} {v : V} {r : List (Str × V)} : List.lookup g ((f, v) :: r) = if g = f then some v else List.lookup g r := by
  by_cases h : g = f
  · have hb : (g == f) = true := beq_iff_eq.mpr h
    rw [if_pos h]; simp [List.lookup, hb]
  · have hb : (g == f) = false := beq_eq_false_iff_ne.mpr h
    rw [if_neg h]; simp [List.lookup, hb]
theorem flds_policy {p u d l t la} : (flds p u d l t la).lookup ("_policy" : Str) = some (.str (ps p)) := by
  unfold flds; rw [look_cons, if_pos rfl]
theorem flds_unit {p u d l t la} : (flds p u d l t la).lookup ("_unit" : Str) = some (.int u) := by
  unfold flds; rw [look_cons, if_neg (by decide +kernel), look_cons, if_pos rfl]
theorem flds_sizes {p u d l t la} : (flds p u d l t la).lookup ("_sizes" : Str) = some (.ref d) := by
  unfold flds; rw [look_cons, if_neg (by decide +kernel), look_cons, if_neg (by decide +kernel), look_cons, if_pos rfl]
theorem flds_pieces {p u d l t la} : (flds p u d l t la).lookup ("_pieces" : Str) = some (.ref l) := by
  unfold flds; rw [look_cons, if_neg (by decide +kernel), look_cons, if_neg (by decide +kernel), look_cons, if_neg (by decide +kernel), look_cons, if_pos rfl]
theorem flds_top {p u d l t la} : (flds p u d l t la).lookup ("_top" : Str) = some (.int t) := by
  unfold flds; rw [look_cons, if_neg (by decide +kernel), look_cons, if_neg (by decide +kernel), look_cons, if_neg (by decide +kernel), look_cons, if_neg (by decide +kernel), look_cons, if_pos rfl]
theorem flds_last {p u d l t la} : (flds p u d l t la).lookup ("_last" : Str) = some (.int la) := by
  unfold flds; rw [look_cons, if_neg (by decide +kernel), look_cons, if_neg (by decide +kernel), look_cons, if_neg (by decide +kernel), look_cons, if_neg (by decide +kernel), look_cons, if_neg (by decide +kernel), look_cons, if_pos rfl]
theorem flds_no {p u d l t la} {m : Str} (h : ¬ m = "_policy" ∧ ¬ m = "_unit" ∧ ¬ m = "_sizes" ∧ ¬ m = "_pieces" ∧ ¬ m = "_top" ∧ ¬ m = "_last") : (flds p u d l t la).lookup m = none := by
  obtain ⟨h1, h2, h3, h4, h5, h6⟩ := h
  unfold flds; rw [look_cons, if_neg h1, look_cons, if_neg h2, look_cons, if_neg h3, look_cons, if_neg h4, look_cons, if_neg h5, look_cons, if_neg h6]; rfl
theorem put_cons {f g : Str} {v x : V} {r : List (Str × V)} : putF f v ((g, x) :: r) = if g = f then (g, v) :: r else (g, x) :: putF f v r := rfl
theorem put_nil {f : Str} {v : V} : putF f v [] = [(f, v)] := rfl
theorem flds_put_pieces {p u d l t la} (l' : Addr) : putF "_pieces" (.ref l') (flds p u d l t la) = flds p u d l' t la := by
  unfold flds; rw [put_cons, if_neg (by decide +kernel), put_cons, if_neg (by decide +kernel), put_cons, if_neg (by decide +kernel), put_cons, if_pos rfl]
theorem flds_put_top {p u d l t la} (t' : Int) : putF "_top" (.int t') (flds p u d l t la) = flds p u d l t' la := by
  unfold flds; rw [put_cons, if_neg (by decide +kernel), put_cons, if_neg (by decide +kernel), put_cons, if_neg (by decide +kernel), put_cons, if_neg (by decide +kernel), put_cons, if_pos rfl]
theorem flds_put_last {p u d l t la} (t' : Int) : putF "_last" (.int t') (flds p u d l t la) = flds p u d l t t' := by
  unfold flds; rw [put_cons, if_neg (by decide +kernel), put_cons, if_neg (by decide +kernel), put_cons, if_neg (by decide +kernel), put_cons, if_neg (by decide +kernel), put_cons, if_neg (by decide +kernel), put_cons, if_pos rfl]
theorem flds_made {p u d l t la} : putF "_last" (.int la) (putF "_top" (.int t) (putF "_pieces" (.ref l) (putF "_sizes" (.ref d) (putF "_unit" (.int u) (putF "_policy" (.str (ps p)) []))))) = flds p u d l t la := by
  unfold flds
  repeat (first | rw [put_nil] | rw [put_cons, if_neg (by decide +kernel)])
theorem flds_len {p u d l t la} : (flds p u d l t la).length < 1000 := by show 6 < 1000; decide

/-! ### dicts of ints -/
abbrev ki (a : Int) : Key := Sum.inl a
abbrev kt (x : Str) : Key := Sum.inr x
def kvz (zs : List (Int × Int)) : List (Key × V) := zs.map fun p => (ki p.1, V.int p.2)
theorem kvz_val : ∀ (zs : List (Int × Int)) (a : Int), valV (kvz zs) (ki a) = (look zs a).map V.int
  | [], a => rfl
  | p :: r, a => by
    have ih := kvz_val r a
    by_cases e : p.1 = a
    · rw [show kvz (p :: r) = (ki p.1, V.int p.2) :: kvz r from rfl, valV_pos (by show ki p.1 = ki a; rw [e])]
      unfold look
      rw [List.find?_cons, show decide (p.1 = a) = true from decide_eq_true e]
      rfl
    · rw [show kvz (p :: r) = (ki p.1, V.int p.2) :: kvz r from rfl, valV_neg (by intro z; exact e (Sum.inl.inj z)), ih]
      unfold look
      rw [List.find?_cons, show decide (p.1 = a) = false from decide_eq_false e]
theorem kvz_put {zs : List (Int × Int)} {a s : Int} (h : a ∉ zs.map (·.1)) : putK (kvz zs) (ki a) (.int s) = kvz (zs ++ [(a, s)]) := by
  have e : valV (kvz zs) (ki a) = none := by
    rw [kvz_val]
    cases q : look zs a with
    | none => rfl
    | some s' => exact absurd (List.mem_map.mpr ⟨_, look_some q, rfl⟩) h
  rw [putK_new _ e]
  unfold kvz
  rw [List.map_append]
  rfl
theorem kvz_drop : ∀ (zs : List (Int × Int)) (a : Int), dropK (kvz zs) (ki a) = kvz (dropA zs a)
  | [], a => rfl
  | p :: r, a => by
    have ih := kvz_drop r a
    by_cases e : p.1 = a
    · rw [show kvz (p :: r) = (ki p.1, V.int p.2) :: kvz r from rfl, dropK_pos (by show ki p.1 = ki a; rw [e]), ih]
      unfold dropA
      rw [List.filter_cons, if_neg (by simp [e])]
    · rw [show kvz (p :: r) = (ki p.1, V.int p.2) :: kvz r from rfl, dropK_neg (by intro z; exact e (Sum.inl.inj z)), ih]
      unfold dropA
      rw [List.filter_cons, if_pos (by simp [e])]
      rfl
theorem kvz_len (zs : List (Int × Int)) : (kvz zs).length = zs.length := List.length_map _
theorem kvz_keys (zs : List (Int × Int)) : (kvz zs).map (·.1) = (zs.map (·.1)).map Sum.inl := by
  unfold kvz; rw [List.map_map, List.map_map]; rfl
theorem valV_drop : ∀ (kvs : List (Key × V)) (k j : Key), valV (dropK kvs k) j = if j = k then none else valV kvs j
  | [], k, j => by show none = _; split <;> rfl
  | p :: r, k, j => by
    have ih := valV_drop r k j
    by_cases e : p.1 = k
    · rw [dropK_pos e, ih]
      by_cases z : j = k
      · rw [if_pos z, if_pos z]
      · rw [if_neg z, if_neg z, valV_neg (by rw [e]; exact fun q => z q.symm)]
    · rw [dropK_neg e]
      by_cases z : p.1 = j
      · rw [valV_pos z, if_neg (by rw [← z]; exact e), valV_pos z]
      · rw [valV_neg z, ih, valV_neg z]

/-! ### a Heap at p: its dict at d -/
structure HeapAt (C : Addr) (H : Hp) (p d : Addr) (pol : Pol) (u : Int) (zs pcs : List (Int × Int)) (t la : Int) : Prop where
  ob : ∃ dx l L, H p = some (.ins C dx (flds pol u d l t la)) ∧ H l = some (.lst (refs L)) ∧ PL H L ∧ prs L = pcs
  dc : H d = some (.dK (kvz zs))
def isDk : HO → Bool
  | .dK _ => true
  | _ => false
/-- what was tracked stands, but p and the dicts in ds -/
def Keep (ds : List Addr) (H H' : Hp) : Prop := ∀ b o, H b = some o → b ∉ ds → H' b = some o
theorem Keep.refl {ds : List Addr} {H : Hp} : Keep ds H H := fun _ _ h _ => h
theorem Keep.trans {ds : List Addr} {H H1 H2 : Hp} (a : Keep ds H H1) (b : Keep ds H1 H2) : Keep ds H H2 := fun c o h n => b c o (a c o h n) n
theorem Keep.mono {ds ds' : List Addr} {H H' : Hp} (a : Keep ds H H') (h : ∀ x ∈ ds, x ∈ ds') : Keep ds' H H' := fun c o e n => a c o e fun m => n (h c m)
theorem Keep.of {ds : List Addr} {H H' : Hp} (a : Same H H') : Keep ds H H' := fun c o e _ => a c o e
theorem same_new {H : Hp} {p : Addr} {o : HO} (h : H p = none) : Same H (upd H p o) := fun b x e => by
  rw [upd_ne (ne_of_none e h)]
  exact e
theorem Keep.new {ds : List Addr} {H : Hp} {p : Addr} {o : HO} (h : H p = none) : Keep ds H (upd H p o) := .of (same_new h)
theorem Keep.put {ds : List Addr} {H : Hp} {p : Addr} {o : HO} (h : p ∈ ds) : Keep ds H (upd H p o) := fun b x e n => by
  rw [upd_ne (fun z => n (by rw [z]; exact h))]
  exact e
theorem Keep.free {ds : List Addr} {H H' : Hp} (k : Keep ds H H') {a : Addr} (h : H' a = none) (n : a ∉ ds) : H a = none := by
  cases q : H a with
  | none => rfl
  | some o => rw [k a o q n] at h; cases h
theorem HeapAt.keep {C : Addr} {H H' : Hp} {p d : Addr} {pol : Pol} {u : Int} {zs pcs : List (Int × Int)} {t la : Int} {ds : List Addr} (h : HeapAt C H p d pol u zs pcs t la) (k : Keep ds H H') (hd : ∀ x ∈ ds, ∃ kvs, H x = some (.dK kvs)) (n : d ∉ ds) : HeapAt C H' p d pol u zs pcs t la := by
  obtain ⟨⟨dx, l, L, h1, h2, h3, h4⟩, h5⟩ := h
  refine ⟨⟨dx, l, L, k _ _ h1 fun m => ?_, k _ _ h2 fun m => ?_, fun e me => k _ _ (h3 e me) fun m => ?_, h4⟩, k _ _ h5 n⟩
  · obtain ⟨kvs, q⟩ := hd _ m; rw [h1] at q; cases q
  · obtain ⟨kvs, q⟩ := hd _ m; rw [h2] at q; cases q
  · obtain ⟨kvs, q⟩ := hd _ m; rw [h3 e me] at q; cases q
theorem sl {n : Nat} {m : Int} (h : (n : Int) ≤ m) (h2 : m ≤ 1000000) : n < sizeLine := by rw [sizeLine_eq]; omega
end OW
/-! The class Heap: __init__, blocks, pieces, top, size. -/
namespace OW
open PySem PySem.Spec PyProof.Rows L2 OO
structure Txt (K : PySem.W.Frag) (mg : Str → Option Value) (C : Addr) : Prop where
  cl : Cls K C
  nPol : NoAttr K C "_policy"
  nUni : NoAttr K C "_unit"
  nSiz : NoAttr K C "_sizes"
  nPie : NoAttr K C "_pieces"
  nTop : NoAttr K C "_top"
  nLas : NoAttr K C "_last"
  mgC : mg "Heap" = some (.ref C)
  len : mg "len" = none
  tuple : mg "tuple" = none
  sorted : mg "sorted" = none
  range : mg "range" = none
  max : mg "max" = none
  min : mg "min" = none
  abs : mg "abs" = none
  int : mg "int" = none
  all : mg "all" = none
  list : mg "list" = none

theorem pl0 : ([] : List (Str × V)).length ≤ 0 := Nat.le_refl _
theorem plS {f : Str} {v : V} {fs : List (Str × V)} {n : Nat} (h : fs.length ≤ n) : (putF f v fs).length ≤ n + 1 := Nat.le_trans (length_putF _ _ _) (Nat.succ_le_succ h)
/-! ### promises -/
def spInit (C : Addr) : Sp := fun vs H Q _ => ∃ (p dx al : Addr) (pol : Pol) (u : Int), vs = [.ref p, .ref al] ∧ H p = some (.ins C dx []) ∧ H al = some (.tup [.str (ps pol), .int u]) ∧
  ∀ (d : Addr) (H' : Hp), H d = none → HeapAt C H' p d pol u [] [] 1 1 → Keep [p] H H' → Q .non H'
/-- a tuple's pairs -/
def TupAt (H : Hp) (a : Addr) (xs : List (Int × Int)) : Prop := ∃ L, H a = some (.tup (refs L)) ∧ PL H L ∧ prs L = xs
def blk (zs : List (Int × Int)) (ys : List Int) : List (Int × Int) := ys.map fun a => (a, (look zs a).getD 0)
def spBlocks (C : Addr) : Sp := fun vs H Q _ => ∃ (p d : Addr) (pol : Pol) (u : Int) (zs pcs : List (Int × Int)) (t la : Int), vs = [.ref p] ∧ HeapAt C H p d pol u zs pcs t la ∧ zs.length ≤ 1000 ∧
  ∀ (ys : List Int) (q : Addr) (H' : Hp), ys.Perm (zs.map (·.1)) → ys.Pairwise (· ≤ ·) → Same H H' → TupAt H' q (blk zs ys) → Q (.ref q) H'
def spPieces (C : Addr) : Sp := fun vs H Q _ => ∃ (p d : Addr) (pol : Pol) (u : Int) (zs pcs : List (Int × Int)) (t la : Int), vs = [.ref p] ∧ HeapAt C H p d pol u zs pcs t la ∧
  ∀ (q : Addr) (H' : Hp), Same H H' → TupAt H' q pcs → Q (.ref q) H'
def spTop (C : Addr) : Sp := fun vs H Q _ => ∃ (p d : Addr) (pol : Pol) (u : Int) (zs pcs : List (Int × Int)) (t la : Int), vs = [.ref p] ∧ HeapAt C H p d pol u zs pcs t la ∧ Q (.int t) H
def spSize (C : Addr) : Sp := fun vs H Q _ => ∃ (p d : Addr) (pol : Pol) (u : Int) (zs pcs : List (Int × Int)) (t la a : Int), vs = [.ref p, .int a] ∧ HeapAt C H p d pol u zs pcs t la ∧ Q (.int ((look zs a).getD 0)) H

section
variable {P : Program} {w : World} {K : PySem.W.Frag} {mg : Str → Option Value} {base : Heap}
theorem scInit : FnScope ["self", "allocator"] ["self", "allocator"] (defScope sInit) := ⟨rfl, rfl, rfl, by decide +kernel, rfl, by decide +kernel, by decide +kernel⟩
theorem ok_init {f C : Addr} {fd : FuncData} (F : Fun K "__init__" "Heap.__init__" sInit f fd) (T : Txt K mg C) : FnOk P w K mg base CX0 1 f fd ["self", "allocator"] (spInit C) := by
  refine F.ok scInit (fun vs H Q E h => ?_) (fun cdv A outer s H vs Q E hr h => ?_)
  · obtain ⟨p, dx, al, pol, u, rfl, _⟩ := h
    rfl
  · obtain ⟨p, dx, al, pol, u, rfl, hp, hal, k⟩ := h
    refine ⟨_, pss_cons (ps_asg (pv 1) (pg_tup rfl (pgs_cons (pg_fld (pv 0)) (pgs_cons (pg_fld (pv 0)) pgs_nil))))
      (pss_cons (ps_fld (pv 0) pe_dnewK rfl) (pss_cons (ps_fld (pv 0) (pe_lst pa_nil) rfl) (pss_cons (ps_fld (pv 0) pe_int rfl) (pss_one (ps_fld (pv 0) pe_int rfl))))), ?_⟩
    refine ⟨_, rfl, al, _, rfl, SqT.of hal, rfl, _, _, rfl, _, rfl, p, C, dx, _, rfl, hp, T.cl, T.nPol, (by show 0 < 1000; decide), _, _, rfl, _, rfl, p, C, dx, _, rfl, upd_same, T.cl, T.nUni, (by show 1 < 1000; decide), rfl, ?_⟩
    intro d hd
    rw [upd_upd] at hd
    have npd : p ≠ d := fun e => by rw [e, upd_same] at hd; cases hd
    have hd0 : H d = none := by rw [upd_ne npd.symm] at hd; exact hd
    refine ⟨_, rfl, p, C, dx, _, rfl, Eq.trans (upd_ne npd) upd_same, T.cl, T.nSiz, Nat.lt_of_le_of_lt (plS (plS pl0)) (by decide), Nat.zero_le _, fun l hl => ?_⟩
    have npl : p ≠ l := fun e => by rw [e, upd_same] at hl; cases hl
    have hl1 := hl
    rw [upd_ne npl.symm] at hl1
    have ndl : d ≠ l := fun e => by rw [e, upd_same] at hl1; cases hl1
    have hl0 : H l = none := by rw [upd_ne ndl.symm, upd_ne npl.symm, upd_ne npl.symm] at hl1; exact hl1
    refine ⟨_, rfl, p, C, dx, _, rfl, Eq.trans (upd_ne npl) upd_same, T.cl, T.nPie, Nat.lt_of_le_of_lt (plS (plS (plS pl0))) (by decide), ?_⟩
    refine ⟨_, rfl, p, C, dx, _, rfl, upd_same, T.cl, T.nTop, Nat.lt_of_le_of_lt (plS (plS (plS (plS pl0)))) (by decide), ?_⟩
    refine ⟨_, rfl, p, C, dx, _, rfl, upd_same, T.cl, T.nLas, Nat.lt_of_le_of_lt (plS (plS (plS (plS (plS pl0))))) (by decide), ?_⟩
    refine k d _ hd0 ⟨⟨dx, l, [], Eq.trans upd_same (congrArg (fun z => some (HO.ins C dx z)) flds_made), ?_, fun e m => (by cases m), rfl⟩, ?_⟩ fun b o e n => ?_
    · rw [upd_ne npl.symm, upd_ne npl.symm, upd_ne npl.symm, upd_same]
      rfl
    · rw [upd_ne npd.symm, upd_ne npd.symm, upd_ne npd.symm, upd_ne ndl, upd_ne npd.symm, upd_same]
      rfl
    · have nb : b ≠ p := fun z => n (by rw [z]; simp)
      rw [upd_ne nb, upd_ne nb, upd_ne nb, upd_ne (ne_of_none e hl0), upd_ne nb, upd_ne (ne_of_none e hd0), upd_ne nb, upd_ne nb]
      exact e

theorem scTop : FnScope ["self"] ["self"] (defScope sTop) := ⟨rfl, rfl, rfl, by decide +kernel, rfl, by decide +kernel, by decide +kernel⟩
theorem ok_top {f C : Addr} {fd : FuncData} (F : Fun K "top" "Heap.top" sTop f fd) (T : Txt K mg C) : FnOk P w K mg base CX0 1 f fd ["self"] (spTop C) := by
  refine F.ok scTop (fun vs H Q E h => ?_) (fun cdv A outer s H vs Q E hr h => ?_)
  · obtain ⟨p, d, pol, u, zs, pcs, t, la, rfl, _⟩ := h
    rfl
  · obtain ⟨p, d, pol, u, zs, pcs, t, la, rfl, ⟨⟨dx, l, L, h1, h2, h3, h4⟩, h5⟩, k⟩ := h
    refine ⟨_, pss_one (ps_ret (pe_fld (pv 0) rfl)), ?_⟩
    exact ⟨_, rfl, p, C, dx, _, _, rfl, h1, T.cl, T.nTop, flds_top, k⟩
theorem scSize : FnScope ["self", "address"] ["self", "address"] (defScope sSize) := ⟨rfl, rfl, rfl, by decide +kernel, rfl, by decide +kernel, by decide +kernel⟩
theorem ok_size {f C : Addr} {fd : FuncData} (F : Fun K "size" "Heap.size" sSize f fd) (T : Txt K mg C) : FnOk P w K mg base CX0 1 f fd ["self", "address"] (spSize C) := by
  refine F.ok scSize (fun vs H Q E h => ?_) (fun cdv A outer s H vs Q E hr h => ?_)
  · obtain ⟨p, d, pol, u, zs, pcs, t, la, a, rfl, _⟩ := h
    rfl
  · obtain ⟨p, d, pol, u, zs, pcs, t, la, a, rfl, ⟨⟨dx, l, L, h1, h2, h3, h4⟩, h5⟩, k⟩ := h
    have hu := hu_of hr
    refine ⟨_, pss_one (ps_ret (pe_dget2 hu (pe_fld (pv 0) rfl) (pv 1) pe_int ⟨rfl, rfl, rfl, rfl⟩)), ?_⟩
    refine ⟨_, rfl, p, C, dx, _, _, rfl, h1, T.cl, T.nSiz, flds_sizes, d, rfl, .inl ⟨_, .inl h5⟩, _, rfl, _, DGet.k (k := ki a) h5, ?_⟩
    have e : (valV (kvz zs) (ki a)).getD (.int 0) = .int ((look zs a).getD 0) := by
      rw [kvz_val]
      cases look zs a <;> rfl
    rw [e]
    exact k
theorem scPieces : FnScope ["self"] ["self"] (defScope sPieces) := ⟨rfl, rfl, rfl, by decide +kernel, rfl, by decide +kernel, by decide +kernel⟩
theorem ok_pieces {f C : Addr} {fd : FuncData} (F : Fun K "pieces" "Heap.pieces" sPieces f fd) (T : Txt K mg C) : FnOk P w K mg base CX0 1 f fd ["self"] (spPieces C) := by
  refine F.ok scPieces (fun vs H Q E h => ?_) (fun cdv A outer s H vs Q E hr h => ?_)
  · obtain ⟨p, d, pol, u, zs, pcs, t, la, rfl, _⟩ := h
    rfl
  · obtain ⟨p, d, pol, u, zs, pcs, t, la, rfl, ⟨⟨dx, l, L, h1, h2, h3, h4⟩, h5⟩, k⟩ := h
    refine ⟨_, pss_one (ps_ret (pe_callTy call_tuple_of (by rfl) T.tuple (by decide +kernel) (pa_cons (pe_fld (pv 0) rfl) pa_nil))), ?_⟩
    refine ⟨_, rfl, p, C, dx, _, _, rfl, h1, T.cl, T.nPie, flds_pieces, l, _, rfl, .inl ⟨SqL.of h2, fun q hq => ?_⟩⟩
    exact k q _ (same_new hq) ⟨L, upd_same, fun e m => same_new hq _ _ (h3 e m), h4⟩
/-- a row of new tuples, one more -/
theorem PL.snoc {H : Hp} {L : Row} {t : Addr} {a b : Int} {o : HO} (h : PL H L) (ht : H t = none) : PL (upd H t (.tup [.int a, .int b])) (L ++ [(t, a, b)]) := fun e m => by
  rcases List.mem_append.mp m with m | m
  · exact same_new ht _ _ (h e m)
  · rw [List.mem_singleton.mp m]; exact upd_same
theorem refs_snoc (L : Row) (t : Addr) (a b : Int) : refs (L ++ [(t, a, b)]) = refs L ++ [.ref t] := by unfold refs; rw [List.map_append]; rfl
theorem prs_snoc (L : Row) (t : Addr) (a b : Int) : prs (L ++ [(t, a, b)]) = prs L ++ [(a, b)] := by unfold prs; rw [List.map_append]; rfl
theorem scBlocks : FnScope ["self", "address"] ["self"] (defScope sBlocks) := ⟨rfl, rfl, rfl, by decide +kernel, rfl, by decide +kernel, by decide +kernel⟩
theorem ok_blocks {f C : Addr} {fd : FuncData} (F : Fun K "blocks" "Heap.blocks" sBlocks f fd) (T : Txt K mg C) : FnOk P w K mg base CX0 1 f fd ["self"] (spBlocks C) := by
  refine F.ok scBlocks (fun vs H Q E h => ?_) (fun cdv A outer s H vs Q E hr h => ?_)
  · obtain ⟨p, d, pol, u, zs, pcs, t, la, rfl, _⟩ := h
    rfl
  · obtain ⟨p, d, pol, u, zs, pcs, t, la, rfl, ⟨⟨dx, l, L, h1, h2, h3, h4⟩, h5⟩, hz, k⟩ := h
    have hu := hu_of hr
    refine ⟨_, pss_one (ps_ret (pe_callTy call_tuple_of (by rfl) T.tuple (by decide +kernel) (pa_cons
      (pe_lc (own := [("address", 1)]) (g := gName 1) (tt := tYes) rfl scBlocks.nd (pi_list (pe_callB (call_sortedDA rfl) (by rfl) T.sorted (by decide +kernel) (pa_cons (pe_fld (pv 0) rfl) pa_nil)))
        (blkOk_by (N := ["self", "address"]) (sc := defScope sBlocks) (by decide +kernel))
        (fun _ _ _ _ _ => pg_name (i := 1) scBlocks.nd rfl (Or.inl rfl)) (fun _ _ _ _ _ => pts_nil)
        (fun _ _ _ _ _ => pe_tup (pa_cons (pv 1) (pa_cons (pe_dget hu (pe_fldK (K := K) rfl (pv 0) rfl) (pv 1) (fun _ _ => rfl)) pa_nil)))) pa_nil))), ?_⟩
    refine ⟨_, rfl, p, C, dx, _, _, rfl, h1, T.cl, T.nSiz, flds_sizes, d, kvz zs, zs.map (·.1), rfl, .inl h5, kvz_keys zs, fun ys q hp hs hq => ?_⟩
    have s1 : Same H (upd H q (.lst (ys.map V.int))) := same_new hq
    refine ⟨q, rfl, ⟨_, SqL.of upd_same⟩, fun D hD => ?_⟩
    have nqD : q ≠ D := ne_of_none upd_same hD
    have hD0 : H D = none := s1.free hD
    have yl : ys.length ≤ 1000 := by rw [hp.length_eq, List.length_map]; exact hz
    refine lc_list (K := K) (a := q) (xs := ys.map V.int) (fun i H' => Same H H' ∧ H' q = some (.lst (ys.map V.int)) ∧ ∃ L, H' D = some (.lst (refs L)) ∧ PL H' L ∧ prs L = blk zs (ys.take i))
      ⟨fun b o e => ?_, ?_, [], upd_same, fun e m => (by cases m), rfl⟩ (fun i H' _ hh => SqL.of hh.2.1) ?_ ?_
    · rw [upd_ne (ne_of_none e hD0)]; exact s1 _ _ e
    · rw [upd_ne nqD]; exact upd_same
    · rintro i x H' hi ⟨s2, e2, L', e3, p3, m3⟩
      rw [List.getElem?_map] at hi
      cases ey : ys[i]? with
      | none => rw [ey] at hi; cases hi
      | some a =>
        rw [ey] at hi
        have ex : V.int a = x := Option.some.inj hi
        subst ex
        obtain ⟨sz, hsz⟩ := look_key (hp.mem_iff.mp (mem_get ey))
        refine ⟨rfl, ⟨_, rfl, ⟨_, rfl, p, C, dx, _, _, rfl, s2 _ _ h1, T.cl, T.nSiz, flds_sizes, _, rfl, d, _, rfl, (by have g := DGet.k (k := ki a) (s2 _ _ h5); rw [kvz_val, hsz] at g; exact g), (by show 2 ≤ sizeLine; decide), fun tt htt => ?_⟩⟩⟩
        have s3 : Same H' (upd H' tt (.tup [.int a, .int sz])) := same_new htt
        refine ⟨refs L', s3 _ _ e3, ?_, ?_⟩
        · have q1 := congrArg List.length m3
          rw [prs_length, blk, List.length_map, List.length_take] at q1
          rw [refs_length]
          exact small1000 (by omega)
        · have nD : D ≠ tt := ne_of_none e3 htt
          refine ⟨fun b o e => ?_, ?_, L' ++ [(tt, a, sz)], ?_, fun e m => ?_, ?_⟩
          · rw [upd_ne (ne_of_none e hD0)]; exact s3 _ _ (s2 _ _ e)
          · rw [upd_ne nqD]; exact s3 _ _ e2
          · rw [upd_same, refs_snoc]
          · have g := PL.snoc (o := .tup []) (a := a) (b := sz) p3 htt e m
            rw [upd_ne]
            · exact g
            · intro z
              rw [z, upd_ne nD, e3] at g
              cases g
          · rw [prs_snoc, m3]
            unfold blk
            rw [tm_step _ ey, hsz]
            rfl
    · rintro H' ⟨s2, e2, L', e3, p3, m3⟩
      refine ⟨D, _, rfl, .inl ⟨SqL.of e3, fun r hr' => ?_⟩⟩
      have s3 : Same H' (upd H' r (.tup (refs L'))) := same_new hr'
      refine k ys r _ hp hs (s2.trans s3) ⟨L', upd_same, fun e m => s3 _ _ (p3 e m), ?_⟩
      rw [m3, List.length_map, List.take_length]
end
end OW
/-! Comparing lists and tuples of ints and of pairs. -/
namespace OW
open PySem PySem.Spec PyProof.Rows L2 OO
def dI (ns : List Int) : List PyData := ns.map .int
def dP (xs : List (Int × Int)) : List PyData := xs.map fun p => .tuple [.int p.1, .int p.2]
theorem lay_dI : ∀ ns : List Int, PyData.canLayAll0 (dI ns) = true
  | [] => rfl
  | n :: r => by
    show (PyData.canLay0 (.int n) && PyData.canLayAll0 (dI r)) = true
    rw [lay_dI r]; rfl
theorem lay_dP : ∀ xs : List (Int × Int), PyData.canLayAll0 (dP xs) = true
  | [] => rfl
  | p :: r => by
    show (PyData.canLay0 (.tuple [.int p.1, .int p.2]) && PyData.canLayAll0 (dP r)) = true
    rw [lay_dP r]; rfl
theorem dep_dI : ∀ ns : List Int, PyData.depthAll (dI ns) ≤ 0
  | [] => Nat.le_refl _
  | n :: r => by
    show max (PyData.depth (.int n)) (PyData.depthAll (dI r)) ≤ 0
    exact Nat.max_le.mpr ⟨Nat.le_refl _, dep_dI r⟩
theorem dep_dP : ∀ xs : List (Int × Int), PyData.depthAll (dP xs) ≤ 1
  | [] => Nat.zero_le _
  | p :: r => by
    show max (PyData.depth (.tuple [.int p.1, .int p.2])) (PyData.depthAll (dP r)) ≤ 1
    exact Nat.max_le.mpr ⟨Nat.le_refl _, dep_dP r⟩
theorem shp_l {ds : List PyData} {n : Nat} (h : PyData.canLayAll0 ds = true) (hd : PyData.depthAll ds ≤ n) (hn : n ≤ 60) : SeqAt.shaped (.list ds) = true := by
  show (PyData.canLayAll0 ds && decide (PyData.depthAll ds + 1 ≤ 64)) = true
  rw [h, decide_eq_true (by omega)]; rfl
theorem shp_t {ds : List PyData} {n : Nat} (h : PyData.canLayAll0 ds = true) (hd : PyData.depthAll ds ≤ n) (hn : n ≤ 60) : SeqAt.shaped (.tuple ds) = true := by
  show (PyData.canLayAll0 ds && decide (PyData.depthAll ds + 1 ≤ 64)) = true
  rw [h, decide_eq_true (by omega)]; rfl
theorem shp_lI (ns : List Int) : SeqAt.shaped (.list (dI ns)) = true := shp_l (lay_dI ns) (dep_dI ns) (by decide)
theorem shp_lP (xs : List (Int × Int)) : SeqAt.shaped (.list (dP xs)) = true := shp_l (lay_dP xs) (dep_dP xs) (by decide)
theorem shp_tP (xs : List (Int × Int)) : SeqAt.shaped (.tuple (dP xs)) = true := shp_t (lay_dP xs) (dep_dP xs) (by decide)
theorem eqv_tP (xs : List (Int × Int)) : PyData.eqv (.tuple (dP xs)) (.tuple (dP xs)) = true := SeqAt.eqv_refl _ (SeqAt.canLay_of_shaped (shp_tP xs))
theorem eqv_lI (ns : List Int) : PyData.eqv (.list (dI ns)) (.list (dI [])) = ns.isEmpty := by cases ns <;> rfl
theorem eqv_lP (xs : List (Int × Int)) : PyData.eqv (.list (dP xs)) (.list (dP [])) = xs.isEmpty := by cases xs <;> rfl
section
variable {K : PySem.W.Frag} {H : Hp}
theorem dpa_ints : ∀ ns : List Int, DpAll K H (ns.map V.int) (dI ns)
  | [] => .nil
  | n :: r => .cons (.int n) (dpa_ints r)
theorem dpa_row : ∀ {L : Row}, PL H L → DpAll K H (refs L) (dP (prs L))
  | [], _ => .nil
  | (t, a, b) :: r, h => .cons (.tup (SqT.of (h (t, a, b) (by simp))) (.cons (.int a) (.cons (.int b) .nil))) (dpa_row fun e m => h e (by simp [m]))
theorem dp_ints {a : Addr} {ns : List Int} (h : H a = some (.lst (ns.map V.int))) : Dp K H (.ref a) (.list (dI ns)) := .lst (SqL.of h) (dpa_ints ns)
theorem dp_row {a : Addr} {L : Row} (h : H a = some (.lst (refs L))) (p : PL H L) : Dp K H (.ref a) (.list (dP (prs L))) := .lst (SqL.of h) (dpa_row p)
theorem dp_tup {a : Addr} {xs : List (Int × Int)} (h : TupAt H a xs) : Dp K H (.ref a) (.tuple (dP xs)) := by
  obtain ⟨L, h1, h2, rfl⟩ := h
  exact .tup (SqT.of h1) (dpa_row h2)
end
theorem dec_int (a b : Int) : decide (V.int a = V.int b) = decide (a = b) := by
  by_cases h : a = b
  · rw [h]; simp
  · rw [decide_eq_false h, decide_eq_false fun z => h (V.int.inj z)]
theorem dec_bl (a b : Bool) : decide (V.bl a = V.bl b) = decide (a = b) := by
  by_cases h : a = b
  · rw [h]; simp
  · rw [decide_eq_false h, decide_eq_false fun z => h (V.bl.inj z)]
end OW
/-! The class Heap: chosen. -/
namespace OW
open PySem PySem.Spec PyProof.Rows L2 OO
/-! ### indices of pieces -/
def gp (pcs : List (Int × Int)) (j : Nat) : Int × Int := pcs.getD j (0, 0)
theorem gp_of {pcs : List (Int × Int)} {j : Nat} {p : Int × Int} (h : pcs[j]? = some p) : gp pcs j = p := by
  unfold gp; rw [List.getD_eq_getElem?_getD, h]; rfl
theorem gp_get {pcs : List (Int × Int)} {j : Nat} (h : j < pcs.length) : pcs[j]? = some (gp pcs j) := by
  unfold gp; rw [List.getD_eq_getElem?_getD, List.getElem?_eq_getElem h]; rfl
def fitP (pcs : List (Int × Int)) (size : Int) (j : Nat) : Bool := decide (size ≤ (gp pcs j).2)
def fit (pcs : List (Int × Int)) (size : Int) (n : Nat) : List Nat := (List.range n).filter (fitP pcs size)
def iv (ks : List Nat) : List V := ks.map fun (j : Nat) => V.int (j : Int)
theorem iv_len (ks : List Nat) : (iv ks).length = ks.length := by unfold iv; rw [List.length_map]
theorem iv_snoc (ks : List Nat) (j : Nat) : iv (ks ++ [j]) = iv ks ++ [.int (j : Int)] := by unfold iv; rw [List.map_append]; rfl
theorem iv_ints (ks : List Nat) : iv ks = (ks.map fun (j : Nat) => (j : Int)).map V.int := by unfold iv; rw [List.map_map]; rfl
theorem iv_get {ks : List Nat} {i : Nat} {x : V} (h : (iv ks)[i]? = some x) : ∃ j, ks[i]? = some j ∧ x = .int (j : Int) := by
  unfold iv at h
  rw [List.getElem?_map] at h
  cases e : ks[i]? with
  | none => rw [e] at h; cases h
  | some j => rw [e] at h; exact ⟨j, rfl, (Option.some.inj h).symm⟩
theorem fit_lt {pcs : List (Int × Int)} {size : Int} {n j : Nat} (h : j ∈ fit pcs size n) : j < n ∧ size ≤ (gp pcs j).2 := by
  obtain ⟨h1, h2⟩ := List.mem_filter.mp h
  exact ⟨List.mem_range.mp h1, of_decide_eq_true h2⟩
theorem fit_len (pcs : List (Int × Int)) (size : Int) (n : Nat) : (fit pcs size n).length ≤ n := by
  have := List.length_filter_le (fitP pcs size) (List.range n)
  rw [List.length_range] at this
  exact this
abbrev Asc (pcs : List (Int × Int)) : Prop := pcs.Pairwise fun p q => p.1 < q.1
theorem asc_le {pcs : List (Int × Int)} (h : Asc pcs) {i j : Nat} (hj : j < pcs.length) (l : i ≤ j) : (gp pcs i).1 ≤ (gp pcs j).1 := by
  rcases Nat.lt_or_eq_of_le l with l | l
  · have hi : i < pcs.length := by omega
    have := (List.pairwise_iff_getElem.mp h) i j hi hj l
    rw [gp_of (List.getElem?_eq_getElem hi), gp_of (List.getElem?_eq_getElem hj)]
    omega
  · rw [l]; exact Int.le_refl _
theorem mem_gp {pcs : List (Int × Int)} {q : Int × Int} (h : q ∈ pcs) : ∃ j, j < pcs.length ∧ gp pcs j = q := by
  obtain ⟨j, hj, e⟩ := List.mem_iff_getElem.mp h
  exact ⟨j, hj, by rw [← e]; exact gp_of (List.getElem?_eq_getElem hj)⟩
def Chose (pol : Pol) (la size : Int) (pcs : List (Int × Int)) (i : Int) : Prop :=
  (i = -1 ∧ Picked pol la size pcs none) ∨ ∃ (j : Nat) (pc : Int × Int), i = (j : Int) ∧ pcs[j]? = some pc ∧ Picked pol la size pcs (some pc)
theorem chose_none {pol : Pol} {la size : Int} {pcs : List (Int × Int)} (h : fit pcs size pcs.length = []) : Chose pol la size pcs (-1) := by
  refine .inl ⟨rfl, .inr fun q m => ?_⟩
  obtain ⟨j, hj, e⟩ := mem_gp m
  apply Classical.byContradiction
  intro n
  have : j ∈ fit pcs size pcs.length := List.mem_filter.mpr ⟨List.mem_range.mpr hj, by unfold fitP; rw [e]; exact decide_eq_true (by omega)⟩
  rw [h] at this
  cases this
theorem chose_first {la size : Int} {pcs : List (Int × Int)} {i : Nat} {t : List Nat} (ha : Asc pcs) (h : fit pcs size pcs.length = i :: t) : Chose .first la size pcs (i : Int) := by
  obtain ⟨h1, h2, h3⟩ := rng_head h
  have h2 : size ≤ (gp pcs i).2 := of_decide_eq_true h2
  refine .inr ⟨i, gp pcs i, rfl, gp_get h1, (by intro z; cases z), mem_get (gp_get h1), h2, fun _ q m hq => ?_, fun z => (by cases z), fun z => (by cases z)⟩
  obtain ⟨j, hj, e⟩ := mem_gp m
  rw [← e] at hq ⊢
  exact asc_le ha hj (h3 j hj (decide_eq_true hq))
theorem chose_best {la size m : Int} {pcs : List (Int × Int)} {i : Nat} {t : List Nat} (ha : Asc pcs) (hm : ∀ j ∈ fit pcs size pcs.length, m ≤ (gp pcs j).2)
    (h : (fit pcs size pcs.length).filter (fun j => decide ((gp pcs j).2 = m)) = i :: t) : Chose .best la size pcs (i : Int) := by
  unfold fit at h
  rw [List.filter_filter] at h
  obtain ⟨h1, h2, h3⟩ := rng_head h
  obtain ⟨h2b, h2a⟩ := Bool.and_eq_true_iff.mp h2
  have h2a : size ≤ (gp pcs i).2 := of_decide_eq_true h2a
  have h2b : (gp pcs i).2 = m := of_decide_eq_true h2b
  refine .inr ⟨i, gp pcs i, rfl, gp_get h1, (by intro z; cases z), mem_get (gp_get h1), h2a, fun z => (by cases z), fun _ q mq hq => ?_, fun z => (by cases z)⟩
  obtain ⟨j, hj, e⟩ := mem_gp mq
  rw [← e] at hq ⊢
  have := hm j (List.mem_filter.mpr ⟨List.mem_range.mpr hj, decide_eq_true hq⟩)
  by_cases z : (gp pcs j).2 = m
  · right
    exact ⟨by omega, asc_le ha hj (h3 j hj (Bool.and_eq_true_iff.mpr ⟨decide_eq_true z, decide_eq_true hq⟩))⟩
  · left; omega
theorem chose_next1 {la size : Int} {pcs : List (Int × Int)} {i : Nat} {t : List Nat} (ha : Asc pcs) (h : (fit pcs size pcs.length).filter (fun j => decide (la ≤ (gp pcs j).1)) = i :: t) : Chose .next la size pcs (i : Int) := by
  unfold fit at h
  rw [List.filter_filter] at h
  obtain ⟨h1, h2, h3⟩ := rng_head h
  obtain ⟨h2b, h2a⟩ := Bool.and_eq_true_iff.mp h2
  have h2a : size ≤ (gp pcs i).2 := of_decide_eq_true h2a
  have h2b : la ≤ (gp pcs i).1 := of_decide_eq_true h2b
  refine .inr ⟨i, gp pcs i, rfl, gp_get h1, (by intro z; cases z), mem_get (gp_get h1), h2a, fun z => (by cases z), fun z => (by cases z), fun _ => .inl ⟨h2b, fun q mq hq hl => ?_⟩⟩
  obtain ⟨j, hj, e⟩ := mem_gp mq
  rw [← e] at hq hl ⊢
  exact asc_le ha hj (h3 j hj (Bool.and_eq_true_iff.mpr ⟨decide_eq_true hl, decide_eq_true hq⟩))
theorem chose_next2 {la size : Int} {pcs : List (Int × Int)} {i : Nat} {t : List Nat} (ha : Asc pcs) (hb : (fit pcs size pcs.length).filter (fun j => decide (la ≤ (gp pcs j).1)) = []) (h : fit pcs size pcs.length = i :: t) : Chose .next la size pcs (i : Int) := by
  obtain ⟨h1, h2, h3⟩ := rng_head h
  have h2 : size ≤ (gp pcs i).2 := of_decide_eq_true h2
  refine .inr ⟨i, gp pcs i, rfl, gp_get h1, (by intro z; cases z), mem_get (gp_get h1), h2, fun z => (by cases z), fun z => (by cases z), fun _ => .inr ⟨fun q mq hq => ?_, fun q mq hq => ?_⟩⟩
  · obtain ⟨j, hj, e⟩ := mem_gp mq
    rw [← e] at hq ⊢
    apply Classical.byContradiction
    intro n
    have : j ∈ (fit pcs size pcs.length).filter (fun j => decide (la ≤ (gp pcs j).1)) := List.mem_filter.mpr ⟨List.mem_filter.mpr ⟨List.mem_range.mpr hj, decide_eq_true hq⟩, decide_eq_true (by omega)⟩
    rw [hb] at this
    cases this
  · obtain ⟨j, hj, e⟩ := mem_gp mq
    rw [← e] at hq ⊢
    exact asc_le ha hj (h3 j hj (decide_eq_true hq))

def spChosen (C : Addr) : Sp := fun vs H Q _ => ∃ (p d : Addr) (pol : Pol) (u : Int) (zs pcs : List (Int × Int)) (t la size : Int), vs = [.ref p, .int size] ∧ HeapAt C H p d pol u zs pcs t la ∧ Asc pcs ∧ pcs.length ≤ 1000000 ∧
  ∀ (i : Int) (H' : Hp), Same H H' → Chose pol la size pcs i → Q (.int i) H'
section
variable {P : Program} {w : World} {K : PySem.W.Frag} {mg : Str → Option Value} {base : Heap}
theorem scChosen : FnScope ["self", "size", "fitting", "least", "behind", "at"] ["self", "size"] (defScope sChosen) := ⟨rfl, rfl, rfl, by decide +kernel, rfl, by decide +kernel, by decide +kernel⟩
theorem ok_chosen {f C : Addr} {fd : FuncData} (F : Fun K "chosen" "Heap.chosen" sChosen f fd) (T : Txt K mg C) : FnOk P w K mg base CX0 1 f fd ["self", "size"] (spChosen C) := by
  refine F.ok scChosen (fun vs H Q E h => ?_) (fun cdv A outer s H vs Q E hr h => ?_)
  · obtain ⟨p, d, pol, u, zs, pcs, t, la, size, rfl, _⟩ := h
    rfl
  · obtain ⟨p, d, pol, u, zs, pcs, t, la, size, rfl, ⟨⟨dx, l, L, h1, h2, h3, h4⟩, h5⟩, hasc, hlen, k⟩ := h
    have hu := hu_of hr
    refine ⟨_, pss_cons (ps_setLc (i := 2) (own := [("at", 5)]) (g := gName 5) rfl scChosen.nd rfl rfl (sw_true rfl rfl rfl (by decide +kernel))
        (pi_range1 rfl T.range (pa_cons (pe_callB call_len_seq (by rfl) T.len PySem.boot_len (pa_cons (pe_fld (pv 0) rfl) pa_nil)) pa_nil))
        (blkOk_by (N := ["self", "size", "fitting", "least", "behind", "at"]) (sc := defScope sChosen) (by decide +kernel))
        (fun _ _ _ _ _ => pg_name (i := 5) scChosen.nd rfl (Or.inl rfl))
        (fun _ _ _ _ _ => pts_one (pt_cmpR op_ge (pe_ix (ix_tupK (K := K) rfl) (pe_ix (ix_listK (K := K) rfl) (pe_fldK (K := K) rfl (pv 0) rfl) (pv 5) (fun _ _ => rfl)) pe_int (fun _ _ => rfl)) (pv 1) (nomark _)))
        (fun _ _ _ _ _ => pv 5))
      (pss_cons (ps_if (PW.pt (pw_or (pt_cmpR (op_eqD hr.units) (pv 2) (pe_lst pa_nil) (nomark _)) (pw_or1 (pt_cmpR op_eq (pe_fld (pv 0) rfl) pe_str (nomark _))))) (pss_one (ps_ret (pe_un un_neg pe_int))) pss_nil)
      (pss_cons (ps_if (pt_cmpR op_eq (pe_fld (pv 0) rfl) pe_str (nomark _))
          (pss_cons (ps_set (i := 3) scChosen.nd rfl (Or.inr rfl) (pe_callB (cr_min rfl) (by rfl) T.min (by decide +kernel) (pa_cons
              (pe_lc (own := [("at", 5)]) (g := gName 5) (tt := tYes) rfl scChosen.nd (pi_list (pv 2)) (blkOk_by (N := ["self", "size", "fitting", "least", "behind", "at"]) (sc := defScope sChosen) (by decide +kernel))
                (fun _ _ _ _ _ => pg_name (i := 5) scChosen.nd rfl (Or.inl rfl)) (fun _ _ _ _ _ => pts_nil)
                (fun _ _ _ _ _ => pe_ix (ix_tupK (K := K) rfl) (pe_ix (ix_listK (K := K) rfl) (pe_fldK (K := K) rfl (pv 0) rfl) (pv 5) (fun _ _ => rfl)) pe_int (fun _ _ => rfl))) pa_nil)))
          (pss_one (ps_setLc (i := 2) (own := [("at", 5)]) (g := gName 5) rfl scChosen.nd rfl rfl (sw_true rfl rfl rfl (by decide +kernel)) (pi_list (pv 2))
            (blkOk_by (N := ["self", "size", "fitting", "least", "behind", "at"]) (sc := defScope sChosen) (by decide +kernel))
            (fun _ _ _ _ _ => pg_name (i := 5) scChosen.nd rfl (Or.inl rfl))
            (fun _ _ _ _ _ => pts_one (pt_cmpR op_eq (pe_ix (ix_tupK (K := K) rfl) (pe_ix (ix_listK (K := K) rfl) (pe_fldK (K := K) rfl (pv 0) rfl) (pv 5) (fun _ _ => rfl)) pe_int (fun _ _ => rfl)) (pv 3) (nomark _)))
            (fun _ _ _ _ _ => pv 5))))
          (pss_one (ps_if (pt_cmpR op_eq (pe_fld (pv 0) rfl) pe_str (nomark _))
            (pss_cons (ps_setLc (i := 4) (own := [("at", 5)]) (g := gName 5) rfl scChosen.nd rfl rfl (sw_true rfl rfl rfl (by decide +kernel)) (pi_list (pv 2))
              (blkOk_by (N := ["self", "size", "fitting", "least", "behind", "at"]) (sc := defScope sChosen) (by decide +kernel))
              (fun _ _ _ _ _ => pg_name (i := 5) scChosen.nd rfl (Or.inl rfl))
              (fun _ _ _ _ _ => pts_one (pt_cmpR op_ge (pe_ix (ix_tupK (K := K) rfl) (pe_ix (ix_listK (K := K) rfl) (pe_fldK (K := K) rfl (pv 0) rfl) (pv 5) (fun _ _ => rfl)) pe_int (fun _ _ => rfl)) (pe_fldK (K := K) rfl (pv 0) rfl) (nomark _)))
              (fun _ _ _ _ _ => pv 5))
            (pss_one (ps_if (pt_cmpR (op_neD hr.units) (pv 4) (pe_lst pa_nil) (nomark _)) (pss_one (ps_set (i := 2) scChosen.nd rfl (Or.inl rfl) (pv 4))) pss_nil)))
            pss_nil)))
      (pss_one (ps_ret (pe_ix ix_list (pv 2) pe_int (fun _ _ => rfl)))))), ?_⟩
    refine ⟨_, rfl, p, C, dx, _, _, rfl, h1, T.cl, T.nPie, flds_pieces, l, refs L, rfl, .inl (SqL.of h2), _, rfl, (by rw [refs_length]; omega), (by have := prs_length L; rw [refs_length]; rw [h4] at this; omega), fun D hD => ?_⟩
    have lL : L.length = pcs.length := by rw [← h4, prs_length]
    -- what stands of a piece, in any heap that keeps all
    have at_ : ∀ {H' : Hp} {i : Nat}, Same H H' → i < pcs.length → ∃ tt b r, H' l = some (.lst (refs L)) ∧ (refs L)[i]? = some (.ref tt) ∧ H' tt = some (.tup [.int b, .int r]) ∧ gp pcs i = (b, r) := fun {H' i} s2 hi => by
      have hi' : i < L.length := by omega
      obtain ⟨⟨tt, b, r⟩, eL⟩ : ∃ e, L[i]? = some e := ⟨_, List.getElem?_eq_getElem hi'⟩
      exact ⟨tt, b, r, s2 _ _ h2, get_refs eL, s2 _ _ (h3 _ (mem_get eL)), gp_of (by rw [← h4]; exact get_prs eL)⟩
    refine lc_range (lo := 0) (n := ((refs L).length : Int).toNat) (fun i H' => Same H H' ∧ H' D = some (.lst (iv (fit pcs size i)))) ⟨same_new hD, upd_same⟩ ?_ ?_
    · rintro i H' hi ⟨s2, e2⟩
      have hi' : i < pcs.length := by rw [refs_length] at hi; omega
      obtain ⟨tt, b, r, q1, q2, q3, q4⟩ := at_ s2 hi'
      refine ⟨rfl, _, rfl, p, C, dx, _, _, rfl, s2 _ _ h1, T.cl, T.nPie, flds_pieces, _, rfl, l, _, _, _, rfl, rfl, SqL.of q1, at_of (Int.zero_add _) q2, tt, _, _, _, rfl, rfl, SqT.of q3, rfl, _, rfl, _, _, rfl, rfl, _, rfl, ?_⟩
      have est : fit pcs size (i + 1) = fit pcs size i ++ (if fitP pcs size i = true then [i] else []) := rf_step i _
      refine ite2 (fun hc => ?_) (fun hc => ?_)
      · have hf : fitP pcs size i = true := by unfold fitP; rw [q4]; exact hc
        refine ⟨_, rfl, _, e2, ?_, fun b o e => ?_, ?_⟩
        · rw [iv_len]
          have := fit_len pcs size i
          exact sl (m := 1000000) (by omega) (by omega)
        · rw [upd_ne (ne_of_none e hD)]; exact s2 _ _ e
        · rw [upd_same, est, if_pos hf, iv_snoc, Int.zero_add]
      · have hf : ¬ fitP pcs size i = true := by unfold fitP; rw [q4]; exact hc
        refine ⟨s2, ?_⟩
        rw [est, if_neg hf, List.append_nil]
        exact e2
    · rintro H1 ⟨s1, e1⟩
      have en : ((refs L).length : Int).toNat = pcs.length := by rw [refs_length]; omega
      rw [en] at e1
      generalize hF : fit pcs size pcs.length = F at e1
      have fm : ∀ j ∈ F, j < pcs.length ∧ size ≤ (gp pcs j).2 := fun j m => fit_lt (by rw [hF]; exact m)
      have fl : F.length ≤ 1000000 := by rw [← hF]; exact Nat.le_trans (fit_len _ _ _) hlen
      -- fitting == []
      refine ⟨_, rfl, Nat.zero_le _, fun z hz => ?_⟩
      have sz : Same H1 (upd H1 z (.lst [])) := same_new hz
      have e1i : H1 D = some (.lst ((F.map fun (j : Nat) => (j : Int)).map V.int)) := by rw [← iv_ints]; exact e1
      refine ⟨.list (dI (F.map fun (j : Nat) => (j : Int))), .list (dI []), dp_ints (sz _ _ e1i), dp_ints (ns := []) upd_same, shp_lI _, shp_lI _, _, rfl, ?_⟩
      generalize hH2 : upd H1 z (.lst []) = H2 at sz ⊢
      have s2 : Same H H2 := s1.trans sz
      have e2 : H2 D = some (.lst (iv F)) := sz _ _ e1
      -- return fitting[0]
      have fin : ∀ {H' : Hp} {D' : Addr} {i : Nat} {t' : List Nat}, Same H H' → H' D' = some (.lst (iv (i :: t'))) → Chose pol la size pcs (i : Int) →
          ∃ p xs i v, V.ref D' = .ref p ∧ V.int 0 = .int i ∧ SqL K H' p xs ∧ atI xs i = some v ∧ Q v H' := fun {H' D' i t'} q1 q2 q3 => ⟨D', _, _, _, rfl, rfl, SqL.of q2, at_of (j := 0) rfl rfl, k _ _ q1 q3⟩
      refine ite2 (fun hc => ?_) (fun hc => ?_)
      · refine iteT ?_
        rw [eqv_lI] at hc
        have hF0 : F = [] := List.map_eq_nil_iff.mp (List.isEmpty_iff.mp hc)
        exact ⟨_, rfl, k (-1) H2 s2 (chose_none (by rw [hF, hF0]))⟩
      · rw [eqv_lI] at hc
        obtain ⟨i0, t0, hi0⟩ : ∃ i0 t0, F = i0 :: t0 := by
          cases F with
          | nil => exact absurd rfl hc
          | cons i0 t0 => exact ⟨i0, t0, rfl⟩
        refine ⟨_, rfl, p, C, dx, _, _, rfl, s2 _ _ h1, T.cl, T.nPol, flds_policy, rfl, _, rfl, ?_⟩
        refine ite2 (fun hb => ?_) (fun hb => ?_)
        · rw [ps_bump] at hb
          exact ⟨_, rfl, k (-1) H2 s2 (.inl ⟨rfl, .inl (of_decide_eq_true hb)⟩)⟩
        · -- self._policy == 'best'
          refine ⟨_, rfl, p, C, dx, _, _, rfl, s2 _ _ h1, T.cl, T.nPol, flds_policy, rfl, _, rfl, ?_⟩
          refine ite2 (fun hp => ?_) (fun hp => ?_)
          · rw [ps_best] at hp
            have hp : pol = .best := of_decide_eq_true hp
            subst hp
            refine ⟨_, rfl, D, rfl, ⟨_, SqL.of e2⟩, fun D2 hD2 => ?_⟩
            have nD : D ≠ D2 := ne_of_none e2 hD2
            refine lc_list (K := K) (a := D) (xs := iv F) (fun i H' => Same H2 H' ∧ H' D2 = some (.lst ((F.take i).map fun j => V.int (gp pcs j).2))) ⟨same_new hD2, upd_same⟩ (fun i H' _ hh => SqL.of (hh.1 _ _ e2)) ?_ ?_
            · rintro i x H' hi ⟨s3, e3⟩
              obtain ⟨j, ej, rfl⟩ := iv_get hi
              obtain ⟨hj, _⟩ := fm j (mem_get ej)
              obtain ⟨tt, b, r, q1, q2, q3, q4⟩ := at_ (s2.trans s3) hj
              refine ⟨rfl, _, rfl, p, C, dx, _, _, rfl, s3 _ _ (s2 _ _ h1), T.cl, T.nPie, flds_pieces, _, rfl, l, _, _, _, rfl, rfl, SqL.of q1, at_of rfl q2, tt, _, _, _, rfl, rfl, SqT.of q3, rfl, _, e3, ?_, fun b' o e => ?_, ?_⟩
              · rw [List.length_map, List.length_take]
                exact sl (m := 1000000) (by omega) (by omega)
              · rw [upd_ne (ne_of_none e hD2)]; exact s3 _ _ e
              · rw [upd_same, tm_step _ ej, q4]
            · rintro H3 ⟨s3, e3⟩
              rw [iv_len, List.take_length] at e3
              have e3' : H3 D2 = some (.lst ((F.map fun j => (gp pcs j).2).map V.int)) := by rw [List.map_map]; exact e3
              refine ⟨D2, _, rfl, SqL.of e3', by rw [List.length_map, hi0]; exact Nat.succ_pos _, fun m hm hle => ?_⟩
              have e4 : H3 D = some (.lst (iv F)) := s3 _ _ e2
              -- fitting = [.. == least]
              refine ⟨_, rfl, D, rfl, ⟨_, SqL.of e4⟩, fun D3 hD3 => ?_⟩
              refine lc_list (K := K) (a := D) (xs := iv F) (fun i H' => Same H3 H' ∧ H' D3 = some (.lst (iv ((F.take i).filter fun j => decide ((gp pcs j).2 = m))))) ⟨same_new hD3, upd_same⟩ (fun i H' _ hh => SqL.of (hh.1 _ _ e4)) ?_ ?_
              · rintro i x H' hi ⟨s5, e5⟩
                obtain ⟨j, ej, rfl⟩ := iv_get hi
                obtain ⟨hj, _⟩ := fm j (mem_get ej)
                obtain ⟨tt, b, r, q1, q2, q3, q4⟩ := at_ ((s2.trans s3).trans s5) hj
                refine ⟨rfl, _, rfl, p, C, dx, _, _, rfl, s5 _ _ (s3 _ _ (s2 _ _ h1)), T.cl, T.nPie, flds_pieces, _, rfl, l, _, _, _, rfl, rfl, SqL.of q1, at_of rfl q2, tt, _, _, _, rfl, rfl, SqT.of q3, rfl, _, rfl, rfl, _, rfl, ?_⟩
                have est := tf_step (fun j => decide ((gp pcs j).2 = m)) ej
                have hl1 : ((F.take i).filter fun j => decide ((gp pcs j).2 = m)).length ≤ F.length := Nat.le_trans (List.length_filter_le _ _) (by rw [List.length_take]; omega)
                refine ite2 (fun hc => ?_) (fun hc => ?_)
                · rw [dec_int] at hc
                  have hq : decide ((gp pcs j).2 = m) = true := by rw [q4]; exact hc
                  refine ⟨_, rfl, _, e5, ?_, fun b' o e => ?_, ?_⟩
                  · rw [iv_len]
                    exact sl (m := 1000000) (by omega) (by omega)
                  · rw [upd_ne (ne_of_none e hD3)]; exact s5 _ _ e
                  · rw [upd_same, est, if_pos hq, iv_snoc]
                · rw [dec_int] at hc
                  have hq : ¬ decide ((gp pcs j).2 = m) = true := by rw [q4]; exact hc
                  refine ⟨s5, ?_⟩
                  rw [est, if_neg hq, List.append_nil]
                  exact e5
              · rintro H4 ⟨s5, e5⟩
                rw [iv_len, List.take_length] at e5
                obtain ⟨jm, hjm, ejm⟩ := List.mem_map.mp hm
                obtain ⟨i1, t1, hi1⟩ : ∃ i1 t1, (F.filter fun j => decide ((gp pcs j).2 = m)) = i1 :: t1 := by
                  cases q : F.filter fun j => decide ((gp pcs j).2 = m) with
                  | nil =>
                    have : jm ∈ F.filter fun j => decide ((gp pcs j).2 = m) := List.mem_filter.mpr ⟨hjm, decide_eq_true ejm⟩
                    rw [q] at this
                    cases this
                  | cons i1 t1 => exact ⟨i1, t1, rfl⟩
                rw [hi1] at e5
                refine ⟨_, rfl, fin ((s2.trans s3).trans s5) e5 (chose_best (m := m) (t := t1) hasc (fun j hj => ?_) (by rw [hF]; exact hi1))⟩
                rw [hF] at hj
                exact hle _ (List.mem_map.mpr ⟨j, hj, rfl⟩)
          · rw [ps_best] at hp
            have nbest : pol ≠ .best := fun z => hp (decide_eq_true z)
            rw [ps_bump] at hb
            have nbump : pol ≠ .bump := fun z => hb (decide_eq_true z)
            -- self._policy == 'next'
            refine ⟨_, rfl, p, C, dx, _, _, rfl, s2 _ _ h1, T.cl, T.nPol, flds_policy, rfl, _, rfl, ?_⟩
            refine ite2 (fun hn => ?_) (fun hn => ?_)
            · rw [ps_next] at hn
              have hn : pol = .next := of_decide_eq_true hn
              subst hn
              refine ⟨_, rfl, D, rfl, ⟨_, SqL.of e2⟩, fun D3 hD3 => ?_⟩
              refine lc_list (K := K) (a := D) (xs := iv F) (fun i H' => Same H2 H' ∧ H' D3 = some (.lst (iv ((F.take i).filter fun j => decide (la ≤ (gp pcs j).1))))) ⟨same_new hD3, upd_same⟩ (fun i H' _ hh => SqL.of (hh.1 _ _ e2)) ?_ ?_
              · rintro i x H' hi ⟨s5, e5⟩
                obtain ⟨j, ej, rfl⟩ := iv_get hi
                obtain ⟨hj, _⟩ := fm j (mem_get ej)
                obtain ⟨tt, b, r, q1, q2, q3, q4⟩ := at_ (s2.trans s5) hj
                refine ⟨rfl, _, rfl, p, C, dx, _, _, rfl, s5 _ _ (s2 _ _ h1), T.cl, T.nPie, flds_pieces, _, rfl, l, _, _, _, rfl, rfl, SqL.of q1, at_of rfl q2, tt, _, _, _, rfl, rfl, SqT.of q3, rfl,
                  _, rfl, p, C, dx, _, _, rfl, s5 _ _ (s2 _ _ h1), T.cl, T.nLas, flds_last, _, _, rfl, rfl, _, rfl, ?_⟩
                have est := tf_step (fun j => decide (la ≤ (gp pcs j).1)) ej
                have hl1 : ((F.take i).filter fun j => decide (la ≤ (gp pcs j).1)).length ≤ F.length := Nat.le_trans (List.length_filter_le _ _) (by rw [List.length_take]; omega)
                refine ite2 (fun hc => ?_) (fun hc => ?_)
                · have hq : decide (la ≤ (gp pcs j).1) = true := by rw [q4]; exact hc
                  refine ⟨_, rfl, _, e5, ?_, fun b' o e => ?_, ?_⟩
                  · rw [iv_len]
                    exact sl (m := 1000000) (by omega) (by omega)
                  · rw [upd_ne (ne_of_none e hD3)]; exact s5 _ _ e
                  · rw [upd_same, est, if_pos hq, iv_snoc]
                · have hq : ¬ decide (la ≤ (gp pcs j).1) = true := by rw [q4]; exact hc
                  refine ⟨s5, ?_⟩
                  rw [est, if_neg hq, List.append_nil]
                  exact e5
              · rintro H4 ⟨s5, e5⟩
                rw [iv_len, List.take_length] at e5
                generalize hB : (F.filter fun j => decide (la ≤ (gp pcs j).1)) = B at e5
                have e5i : H4 D3 = some (.lst ((B.map fun (j : Nat) => (j : Int)).map V.int)) := by rw [← iv_ints]; exact e5
                refine ⟨_, rfl, Nat.zero_le _, fun z' hz' => ?_⟩
                have sz' : Same H4 (upd H4 z' (.lst [])) := same_new hz'
                refine ⟨.list (dI (B.map fun (j : Nat) => (j : Int))), .list (dI []), dp_ints (sz' _ _ e5i), dp_ints (ns := []) upd_same, shp_lI _, shp_lI _, _, rfl, ?_⟩
                refine ite2 (fun hc => ?_) (fun hc => ?_)
                · rw [eqv_lI] at hc
                  cases B with
                  | nil => exact absurd hc (by decide)
                  | cons i1 t1 => exact ⟨_, rfl, _, rfl, fin ((s2.trans s5).trans sz') (sz' _ _ e5) (chose_next1 hasc (by rw [hF]; exact hB))⟩
                · rw [eqv_lI] at hc
                  cases B with
                  | nil =>
                    rw [hi0] at e2 hF
                    exact ⟨_, rfl, fin ((s2.trans s5).trans sz') (sz' _ _ (s5 _ _ e2)) (chose_next2 hasc (by rw [hF, ← hi0]; exact hB) hF)⟩
                  | cons i1 t1 => exact absurd rfl hc
            · rw [ps_next] at hn
              have nnext : pol ≠ .next := fun z => hn (decide_eq_true z)
              have hf : pol = .first := by
                cases pol with
                | first => rfl
                | best => exact absurd rfl nbest
                | next => exact absurd rfl nnext
                | bump => exact absurd rfl nbump
              subst hf
              rw [hi0] at e2 hF
              exact ⟨_, rfl, fin s2 e2 (chose_first hasc hF)⟩
end
end OW
/-! The class Heap: take. -/
namespace OW
open PySem PySem.Spec PyProof.Rows L2 OO
theorem cut_take (xs : List V) (j : Nat) : cutV xs none (some (j : Int)) = xs.take j := by
  unfold cutV
  rw [HT.sIx_none, HT.sIx_nat, Nat.sub_zero, List.drop_zero]
  rcases Nat.le_total j xs.length with h | h
  · rw [Nat.min_eq_left h]
  · rw [Nat.min_eq_right h, List.take_length, List.take_of_length_le h]
theorem cut_drop (xs : List V) (j : Nat) : cutV xs (some (j : Int)) none = xs.drop j := by
  unfold cutV
  rw [HT.sIx_none, HT.sIx_nat]
  rcases Nat.le_total j xs.length with h | h
  · rw [Nat.min_eq_left h, List.take_of_length_le (by rw [List.length_drop]; omega)]
  · rw [Nat.min_eq_right h, Nat.sub_self, List.take_zero, List.drop_eq_nil_of_le h]
theorem refs_take (L : Row) (j : Nat) : (refs L).take j = refs (L.take j) := by unfold refs; rw [List.map_take]
theorem refs_drop (L : Row) (j : Nat) : (refs L).drop j = refs (L.drop j) := by unfold refs; rw [List.map_drop]
theorem split_at {α : Type} {l : List α} {j : Nat} {x : α} (h : l[j]? = some x) : l = l.take j ++ x :: l.drop (j + 1) := by
  obtain ⟨hj, e⟩ := List.getElem?_eq_some_iff.mp h
  rw [← e, List.getElem_cons_drop hj, List.take_append_drop]
def U4 (u : Int) : Prop := u = 1 ∨ u = 2 ∨ u = 4 ∨ u = 8
def sizeOf_ (many u : Int) : Int := ((if many > 1 then many else 1) + u - 1) / u * u
def addr (o : Option (Int × Int)) (t : Int) : Int := match o with
  | none => t
  | some p => p.1
def topOf (t x : Int) : Int := if x > t then x else t
theorem asc_of {bump : Bool} {zs pcs : List (Int × Int)} {t : Int} (h : OO.HOk bump zs pcs t) : Asc pcs := h.can.asc
theorem pcs_len {bump : Bool} {zs pcs : List (Int × Int)} {t : Int} (h : OO.HOk bump zs pcs t) (ht : t ≤ 100000) : pcs.length ≤ 100000 := by
  have := canon_len h.can h.good.top1
  omega
theorem key_free {zs : List (Int × Int)} {t a s : Int} (h : Good (zs ++ [(a, s)]) t) : a ∉ zs.map (·.1) := by
  have := h.nd
  rw [List.map_append, List.nodup_append] at this
  intro m
  exact this.2.2 a m a (by simp) rfl
def spTake (C : Addr) : Sp := fun vs H Q _ => ∃ (p d : Addr) (pol : Pol) (u : Int) (zs pcs : List (Int × Int)) (t la many : Int), vs = [.ref p, .int many] ∧ HeapAt C H p d pol u zs pcs t la ∧ OO.HOk (isBump pol) zs pcs t ∧
  U4 u ∧ 0 ≤ many ∧ many ≤ 40 ∧ zs.length ≤ 1000 ∧ t ≤ 100000 ∧
  ∀ (o : Option (Int × Int)) (pcs' : List (Int × Int)) (H' : Hp), Picked pol la (sizeOf_ many u) pcs o → OO.HOk (isBump pol) (zs ++ [(addr o t, sizeOf_ many u)]) pcs' (topOf t (addr o t + sizeOf_ many u)) →
    HeapAt C H' p d pol u (zs ++ [(addr o t, sizeOf_ many u)]) pcs' (topOf t (addr o t + sizeOf_ many u)) (addr o t + sizeOf_ many u) → Keep [p, d] H H' → Q (.int (addr o t)) H'
section
variable {P : Program} {w : World} {K : PySem.W.Frag} {mg : Str → Option Value} {base : Heap}
theorem scTake : FnScope ["self", "many", "size", "at", "address", "room", "rest"] ["self", "many"] (defScope sTake) := ⟨rfl, rfl, rfl, by decide +kernel, rfl, by decide +kernel, by decide +kernel⟩
theorem ok_take {f C fC : Addr} {fd fdC : FuncData} (F : Fun K "take" "Heap.take" sTake f fd) (T : Txt K mg C) (GC : FnOk P w K mg base CX0 1 fC fdC ["self", "size"] (spChosen C)) (bC : Binds K fdC ["self", "size"] []) (mC : Meth K C "chosen" fC) :
    FnOk P w K mg base CX0 2 f fd ["self", "many"] (spTake C) := by
  refine F.ok scTake (fun vs H Q E h => ?_) (fun cdv A outer s H vs Q E hr h => ?_)
  · obtain ⟨p, d, pol, u, zs, pcs, t, la, many, rfl, _⟩ := h
    rfl
  · obtain ⟨p, d, pol, u, zs, pcs, t, la, many, rfl, HA, ok, hu4, hm0, hm1, hzl, htl, k⟩ := h
    have hu := hu_of hr
    refine ⟨_, pss_cons (ps_set (i := 2) scTake.nd rfl (Or.inl rfl) (pe_op op_mul (pe_op op_fdiv (pe_op op_sub (pe_op op_add (pe_callB (call_max2 rfl) (by rfl) T.max (by decide +kernel) (pa_cons pe_int (pa_cons (pv 1) pa_nil))) (pe_fld (pv 0) rfl)) pe_int) (pe_fld (pv 0) rfl)) (pe_fld (pv 0) rfl)))
      (pss_cons (ps_set (i := 3) scTake.nd rfl (Or.inl rfl) (pe_meth (pv 0) T.cl mC GC hr bC .nil pass0 (pa_cons (pv 2) pa_nil)))
      (pss_cons (ps_if (pt_cmpR op_lt (pv 3) pe_int (nomark _))
          (pss_cons (ps_set (i := 4) scTake.nd rfl (Or.inl rfl) (pe_fld (pv 0) rfl)) (pss_one (ps_fldaug (pv 0) (pv 2) in_add)))
          (pss_cons (ps_asg (pe_ix ix_list (pe_fld (pv 0) rfl) (pv 3) (fun _ _ => rfl)) (pg_tup rfl (pgs_cons (pg_name (i := 4) scTake.nd rfl (Or.inl rfl)) (pgs_cons (pg_name (i := 5) scTake.nd rfl (Or.inl rfl)) pgs_nil))))
          (pss_cons (ps_set (i := 6) scTake.nd rfl (Or.inl rfl) (pe_lst (pa_cons (pe_tup (pa_cons (pe_op op_add (pv 4) (pv 2)) (pa_cons (pe_op op_sub (pv 5) (pv 2)) pa_nil))) pa_nil)))
          (pss_cons (ps_if (pt_cmpR op_eq (pv 5) (pv 2) (nomark _)) (pss_one (ps_set (i := 6) scTake.nd rfl (Or.inl rfl) (pe_lst pa_nil))) pss_nil)
          (pss_one (ps_fld (pv 0) (pe_op op_cat (pe_op op_cat (pe_slice sl_list (pe_fld (pv 0) rfl) po_none (po_some (pv 3))) (pv 6)) (pe_slice sl_list (pe_fld (pv 0) rfl) (po_some (pe_op op_add (pv 3) pe_int)) po_none)) rfl))))))
      (pss_cons (ps_dput hu (pe_fld (pv 0) rfl) (pv 4) (pv 2) rfl)
      (pss_cons (ps_fld (pv 0) (pe_op op_add (pv 4) (pv 2)) rfl)
      (pss_one (ps_ret (pv 4))))))), ?_⟩
    obtain ⟨⟨dx, l, L, h1, h2, h3, h4⟩, h5⟩ := id HA
    have hu0 : 0 < u ∧ u ≤ 8 := by rcases hu4 with rfl | rfl | rfl | rfl <;> decide
    have hz : 1 ≤ sizeOf_ many u ∧ sizeOf_ many u ≤ 48 := size_le hu4 hm0 hm1
    have htop1 := ok.good.top1
    refine ⟨_, rfl, 1, many, rfl, _, rfl, p, C, dx, _, _, rfl, h1, T.cl, T.nUni, flds_unit, _, _, rfl, rfl, _, _, rfl, rfl, _, rfl, p, C, dx, _, _, rfl, h1, T.cl, T.nUni, flds_unit, _, _, rfl, rfl, ⟨hu0.1, by omega⟩,
      _, rfl, p, C, dx, _, _, rfl, h1, T.cl, T.nUni, flds_unit, _, _, rfl, rfl, .inr ⟨by omega, by omega⟩, ?_⟩
    -- at = self.chosen(size)
    refine ⟨_, rfl, p, dx, _, rfl, h1, flds_no (by decide +kernel), _, rfl, p, d, pol, u, zs, pcs, t, la, sizeOf_ many u, rfl, HA, asc_of ok, Nat.le_trans (pcs_len ok htl) (by decide), fun i H1 s1 hch => ?_⟩
    have g1 := s1 _ _ h1
    have g2 := s1 _ _ h2
    have g5 := s1 _ _ h5
    have npd : p ≠ d := ne_of h1 h5 (by intro z; cases z)
    have npl : l ≠ p := ne_of h2 h1 (by intro z; cases z)
    have nld : l ≠ d := ne_of h2 h5 (by intro z; cases z)
    have zl : (kvz zs).length < sizeLine := by rw [kvz_len]; exact small1000 hzl
    refine ⟨_, rfl, _, _, rfl, rfl, _, rfl, ?_⟩
    rcases hch with ⟨rfl, hpk⟩ | ⟨j, pc, rfl, hj, hpk⟩
    · refine ite2 (fun _ => ?_) (fun hc => absurd (show decide ((-1 : Int) < 0) = true by decide) hc)
      obtain ⟨c1, c2⟩ : OO.HOk (isBump pol) (zs ++ [(t, sizeOf_ many u)]) pcs (t + sizeOf_ many u) ∧ topOf t (t + sizeOf_ many u) = t + sizeOf_ many u := ⟨hok_take_top ok hz.1, if_pos (by omega)⟩
      refine ⟨_, rfl, p, C, dx, _, _, rfl, g1, T.cl, T.nTop, flds_top, ?_⟩
      refine ⟨_, rfl, p, C, dx, _, _, rfl, g1, T.cl, T.nTop, flds_top, _, rfl, _, _, rfl, rfl, dx, _, g1, flds_len, ?_⟩
      rw [flds_put_top]
      have g5' : (upd H1 p (.ins C dx (flds pol u d l (t + sizeOf_ many u) la))) d = some (.dK (kvz zs)) := by rw [upd_ne npd.symm]; exact g5
      refine ⟨_, rfl, _, rfl, p, C, dx, _, _, rfl, upd_same, T.cl, T.nSiz, flds_sizes, _, rfl, d, _, rfl, DPut.k (k := ki t) g5' zl, ?_⟩
      rw [kvz_put (key_free c1.good)]
      refine ⟨_, rfl, _, rfl, _, _, rfl, rfl, _, rfl, p, C, dx, _, rfl, Eq.trans (upd_ne npd) upd_same, T.cl, T.nLas, flds_len, ?_⟩
      rw [flds_put_last]
      refine ⟨_, rfl, ?_⟩
      refine k none pcs _ hpk (by show OO.HOk _ _ _ (topOf t (t + _)); rw [c2]; exact c1) ?_ fun b o e n => ?_
      · show HeapAt C _ p d pol u (zs ++ [(t, sizeOf_ many u)]) pcs (topOf t (t + sizeOf_ many u)) (t + sizeOf_ many u)
        rw [c2]
        refine ⟨⟨dx, l, L, upd_same, ?_, fun e m => ?_, h4⟩, ?_⟩
        · rw [upd_ne npl, upd_ne nld, upd_ne npl]; exact g2
        · have q := s1 _ _ (h3 e m)
          rw [upd_ne (ne_of q g1 (by intro z; cases z)), upd_ne (ne_of q g5 (by intro z; cases z)), upd_ne (ne_of q g1 (by intro z; cases z))]
          exact q
        · rw [upd_ne npd.symm, upd_same]
          rfl
      · have nb : b ≠ p := fun z => n (by rw [z]; simp)
        have nb2 : b ≠ d := fun z => n (by rw [z]; simp)
        rw [upd_ne nb, upd_ne nb2, upd_ne nb]
        exact s1 _ _ e
    · refine ite2 (fun hc => absurd (of_decide_eq_true hc) (by omega)) (fun _ => ?_)
      obtain ⟨b, room⟩ := pc
      have hjL : j < L.length := by rw [← prs_length, h4]; exact get_lt hj
      obtain ⟨⟨tt, b', room'⟩, eL⟩ : ∃ e, L[j]? = some e := ⟨_, List.getElem?_eq_getElem hjL⟩
      have eb : (b', room') = (b, room) := by
        have q := get_prs eL
        rw [h4, hj] at q
        exact (Option.some.inj q).symm
      cases eb
      have eS := split_at eL
      have eP : pcs = prs (L.take j) ++ (b, room) :: prs (L.drop (j + 1)) := by
        rw [← h4]
        conv => lhs; rw [eS]
        unfold prs
        rw [List.map_append]
        rfl
      have hsr : sizeOf_ many u ≤ room := hpk.2.2.1
      have ok' := ok
      rw [eP] at ok'
      have ok2 := hok_take_piece ok' hz.1 hsr
      have hR : IsRun (Own zs) t b room := (ok'.can.mem (b, room)).mp (by simp)
      have ct : topOf t (b + sizeOf_ many u) = t := if_neg (by have := hR.ht; omega)
      have lenL : L.length ≤ 100000 := by rw [← prs_length, h4]; exact pcs_len ok htl
      -- address, room = self._pieces[at]
      refine ⟨_, rfl, p, C, dx, _, _, rfl, g1, T.cl, T.nPie, flds_pieces, _, rfl, l, _, _, _, rfl, rfl, SqL.of g2, at_of rfl (get_refs eL), tt, _, rfl, SqT.of (s1 _ _ (h3 _ (mem_get eL))), rfl, _, _, rfl, _, _, rfl, rfl, ?_⟩
      -- rest = [(address + size, room - size)]
      refine ⟨.int b, rfl, .int (sizeOf_ many u), rfl, _, _, rfl, rfl, .int room, rfl, .int (sizeOf_ many u), rfl, _, _, rfl, rfl, (by show 2 ≤ sizeLine; decide), fun tn htn => ?_⟩
      refine ⟨(by show 1 ≤ sizeLine; decide), fun lr hlr => ?_⟩
      dsimp only at hlr ⊢
      generalize hH2 : upd H1 tn (.tup [.int (b + sizeOf_ many u), .int (room - sizeOf_ many u)]) = H2 at hlr ⊢
      have s2 : Same H1 H2 := by rw [← hH2]; exact same_new htn
      have etn : H2 tn = some (.tup [.int (b + sizeOf_ many u), .int (room - sizeOf_ many u)]) := by rw [← hH2]; exact upd_same
      -- the rest as a row at some list
      have tail : ∀ (H3 : Hp) (lq : Addr) (R : Row), Same H2 H3 → H3 lq = some (.lst (refs R)) → PL H3 R → prs R = (if room = sizeOf_ many u then [] else [(b + sizeOf_ many u, room - sizeOf_ many u)]) → R.length ≤ 1 →
          ∀ (l1 l2 l3 l4 : Addr), H3 l1 = none → (upd H3 l1 (.lst (refs (L.take j)))) l2 = none → (upd (upd H3 l1 (.lst (refs (L.take j)))) l2 (.lst (refs (L.take j) ++ refs R))) l3 = none →
            (upd (upd (upd H3 l1 (.lst (refs (L.take j)))) l2 (.lst (refs (L.take j) ++ refs R))) l3 (.lst (refs (L.drop (j + 1))))) l4 = none →
            Q (.int b) (upd (upd (upd (upd (upd (upd (upd H3 l1 (.lst (refs (L.take j)))) l2 (.lst (refs (L.take j) ++ refs R))) l3 (.lst (refs (L.drop (j + 1))))) l4 (.lst (refs (L.take j) ++ refs R ++ refs (L.drop (j + 1)))))
              p (.ins C dx (flds pol u d l4 t la))) d (.dK (kvz (zs ++ [(b, sizeOf_ many u)])))) p (.ins C dx (flds pol u d l4 t (b + sizeOf_ many u)))) := by
        intro H3 lq R s3 eR pR mR lR l1 l2 l3 l4 n1 n2 n3 n4
        have a1 : Same H3 (upd H3 l1 (.lst (refs (L.take j)))) := same_new n1
        have a2 := same_new (o := .lst (refs (L.take j) ++ refs R)) n2
        have a3 := same_new (o := .lst (refs (L.drop (j + 1)))) n3
        have a4 := same_new (o := .lst (refs (L.take j) ++ refs R ++ refs (L.drop (j + 1)))) n4
        have a := ((a1.trans a2).trans a3).trans a4
        generalize hH4 : upd (upd (upd (upd H3 l1 (.lst (refs (L.take j)))) l2 (.lst (refs (L.take j) ++ refs R))) l3 (.lst (refs (L.drop (j + 1))))) l4 (.lst (refs (L.take j) ++ refs R ++ refs (L.drop (j + 1)))) = H4 at a a4 ⊢
        have e4 : H4 l4 = some (.lst (refs (L.take j ++ R ++ L.drop (j + 1)))) := by
          rw [← hH4, upd_same]
          unfold refs
          rw [List.map_append, List.map_append]
        have b0 : Same H H4 := ((s1.trans s2).trans s3).trans a
        have c1 := b0 _ _ h1
        have c5 := b0 _ _ h5
        have nlp : l4 ≠ p := ne_of e4 c1 (by intro z; cases z)
        have nld4 : l4 ≠ d := ne_of e4 c5 (by intro z; cases z)
        refine k (some (b, room)) (prs (L.take j ++ R ++ L.drop (j + 1))) _ hpk ?_ ?_ fun x o e n => ?_
        · show OO.HOk _ (zs ++ [(b, sizeOf_ many u)]) _ (topOf t (b + _))
          rw [ct]
          have q : prs (L.take j ++ R ++ L.drop (j + 1)) = prs (L.take j) ++ prs R ++ prs (L.drop (j + 1)) := by
            unfold prs
            rw [List.map_append, List.map_append]
          rw [q, mR]
          exact ok2
        · show HeapAt C _ p d pol u (zs ++ [(b, sizeOf_ many u)]) _ (topOf t (b + sizeOf_ many u)) (b + sizeOf_ many u)
          rw [ct]
          refine ⟨⟨dx, l4, L.take j ++ R ++ L.drop (j + 1), upd_same, ?_, fun e m => ?_, rfl⟩, ?_⟩
          · rw [upd_ne nlp, upd_ne nld4, upd_ne nlp]; exact e4
          · have q : H4 e.1 = some (.tup [.int e.2.1, .int e.2.2]) := by
              rcases List.mem_append.mp m with m | m
              · rcases List.mem_append.mp m with m | m
                · exact b0 _ _ (h3 e (List.mem_of_mem_take m))
                · exact a _ _ (pR e m)
              · exact b0 _ _ (h3 e (List.mem_of_mem_drop m))
            rw [upd_ne (ne_of q c1 (by intro z; cases z)), upd_ne (ne_of q c5 (by intro z; cases z)), upd_ne (ne_of q c1 (by intro z; cases z))]
            exact q
          · rw [upd_ne npd.symm, upd_same]
        · have nb : x ≠ p := fun z => n (by rw [z]; simp)
          have nb2 : x ≠ d := fun z => n (by rw [z]; simp)
          rw [upd_ne nb, upd_ne nb2, upd_ne nb]
          exact b0 _ _ e
      refine ⟨.int room, rfl, .int (sizeOf_ many u), rfl, rfl, _, rfl, ?_⟩
      rw [dec_int]
      refine ite2 (fun hc => ?_) (fun hc => ?_)
      · have hc : room = sizeOf_ many u := of_decide_eq_true hc
        refine ⟨Nat.zero_le _, fun lq hlq => ?_⟩
        have s3 : Same H2 (upd (upd H2 lr (.lst [.ref tn])) lq (.lst [])) := (same_new hlr).trans (same_new hlq)
        have e6 : (upd (upd H2 lr (.lst [.ref tn])) lq (.lst [])) lq = some (.lst (refs [])) := upd_same
        have TL := tail _ lq [] s3 e6 (fun e m => by cases m) (by rw [if_pos hc]; rfl) (by decide)
        generalize upd (upd H2 lr (.lst [.ref tn])) lq (.lst []) = H3 at s3 e6 TL ⊢
        have lR : ([] : Row).length ≤ 1 := Nat.le_of_ble_eq_true rfl
        have c1 := ((s1.trans s2).trans s3) _ _ h1
        have c2 := ((s1.trans s2).trans s3) _ _ h2
        have c5 := ((s1.trans s2).trans s3) _ _ h5
        refine ⟨_, rfl, p, C, dx, _, _, rfl, c1, T.cl, T.nPie, flds_pieces, _, rfl, _, rfl, l, _, rfl, SqL.of c2, fun l1 n1 => ?_⟩
        rw [cut_take, refs_take]
        have a1 : Same H3 (upd H3 l1 (.lst (refs (L.take j)))) := same_new n1
        refine ⟨_, rfl, l1, _, _, _, rfl, rfl, upd_same, a1 _ _ e6, (by rw [refs_length, refs_length, List.length_take]; exact Nat.le_of_lt (sl (m := 1000000) (by omega) (by omega))), fun l2 n2 => ?_⟩
        have a2 := same_new (o := .lst (refs (L.take j) ++ refs [])) n2
        refine ⟨_, rfl, p, C, dx, _, _, rfl, a2 _ _ (a1 _ _ c1), T.cl, T.nPie, flds_pieces, _, rfl, _, _, rfl, rfl, _, rfl, l, _, rfl, SqL.of (a2 _ _ (a1 _ _ c2)), fun l3 n3 => ?_⟩
        rw [show ((j : Int) + 1) = ((j + 1 : Nat) : Int) from rfl, cut_drop, refs_drop]
        have a3 := same_new (o := .lst (refs (L.drop (j + 1)))) n3
        refine ⟨l2, l3, _, _, rfl, rfl, a3 _ _ upd_same, upd_same, (by rw [List.length_append, refs_length, refs_length, refs_length, List.length_take, List.length_drop]; exact Nat.le_of_lt (sl (m := 1000000) (by omega) (by omega))), fun l4 n4 => ?_⟩
        have a4 := same_new (o := .lst (refs (L.take j) ++ refs [] ++ refs (L.drop (j + 1)))) n4
        have TT := TL l1 l2 l3 l4 n1 n2 n3 n4
        have c1' := a4 _ _ (a3 _ _ (a2 _ _ (a1 _ _ c1)))
        have c5' := a4 _ _ (a3 _ _ (a2 _ _ (a1 _ _ c5)))
        refine ⟨_, rfl, p, C, dx, _, rfl, c1', T.cl, T.nPie, flds_len, ?_⟩
        rw [flds_put_pieces]
        refine ⟨_, rfl, _, rfl, p, C, dx, _, _, rfl, upd_same, T.cl, T.nSiz, flds_sizes, _, rfl, d, _, rfl, DPut.k (k := ki b) (Eq.trans (upd_ne npd.symm) c5') zl, ?_⟩
        rw [kvz_put (key_free ok2.good)]
        refine ⟨_, rfl, _, rfl, _, _, rfl, rfl, _, rfl, p, C, dx, _, rfl, Eq.trans (upd_ne npd) upd_same, T.cl, T.nLas, flds_len, ?_⟩
        rw [flds_put_last]
        exact ⟨_, rfl, TT⟩
      · have hc : ¬ room = sizeOf_ many u := fun z => hc (decide_eq_true z)
        have s3 : Same H2 (upd H2 lr (.lst [.ref tn])) := same_new hlr
        have e6 : (upd H2 lr (.lst [.ref tn])) lr = some (.lst (refs [(tn, b + sizeOf_ many u, room - sizeOf_ many u)])) := upd_same
        have TL := tail _ lr [(tn, b + sizeOf_ many u, room - sizeOf_ many u)] s3 e6 (fun e m => by rw [List.mem_singleton.mp m]; exact s3 _ _ etn) (by rw [if_neg hc]; rfl) (Nat.le_refl 1)
        generalize upd H2 lr (.lst [.ref tn]) = H3 at s3 e6 TL ⊢
        have lR : ([(tn, b + sizeOf_ many u, room - sizeOf_ many u)] : Row).length ≤ 1 := Nat.le_of_ble_eq_true rfl
        have c1 := ((s1.trans s2).trans s3) _ _ h1
        have c2 := ((s1.trans s2).trans s3) _ _ h2
        have c5 := ((s1.trans s2).trans s3) _ _ h5
        refine ⟨_, rfl, p, C, dx, _, _, rfl, c1, T.cl, T.nPie, flds_pieces, _, rfl, _, rfl, l, _, rfl, SqL.of c2, fun l1 n1 => ?_⟩
        rw [cut_take, refs_take]
        have a1 : Same H3 (upd H3 l1 (.lst (refs (L.take j)))) := same_new n1
        refine ⟨_, rfl, l1, _, _, _, rfl, rfl, upd_same, a1 _ _ e6, (by rw [refs_length, refs_length, List.length_take]; exact Nat.le_of_lt (sl (m := 1000000) (by omega) (by omega))), fun l2 n2 => ?_⟩
        have a2 := same_new (o := .lst (refs (L.take j) ++ refs [(tn, b + sizeOf_ many u, room - sizeOf_ many u)])) n2
        refine ⟨_, rfl, p, C, dx, _, _, rfl, a2 _ _ (a1 _ _ c1), T.cl, T.nPie, flds_pieces, _, rfl, _, _, rfl, rfl, _, rfl, l, _, rfl, SqL.of (a2 _ _ (a1 _ _ c2)), fun l3 n3 => ?_⟩
        rw [show ((j : Int) + 1) = ((j + 1 : Nat) : Int) from rfl, cut_drop, refs_drop]
        have a3 := same_new (o := .lst (refs (L.drop (j + 1)))) n3
        refine ⟨l2, l3, _, _, rfl, rfl, a3 _ _ upd_same, upd_same, (by rw [List.length_append, refs_length, refs_length, refs_length, List.length_take, List.length_drop]; exact Nat.le_of_lt (sl (m := 1000000) (by omega) (by omega))), fun l4 n4 => ?_⟩
        have a4 := same_new (o := .lst (refs (L.take j) ++ refs [(tn, b + sizeOf_ many u, room - sizeOf_ many u)] ++ refs (L.drop (j + 1)))) n4
        have TT := TL l1 l2 l3 l4 n1 n2 n3 n4
        have c1' := a4 _ _ (a3 _ _ (a2 _ _ (a1 _ _ c1)))
        have c5' := a4 _ _ (a3 _ _ (a2 _ _ (a1 _ _ c5)))
        refine ⟨_, rfl, p, C, dx, _, rfl, c1', T.cl, T.nPie, flds_len, ?_⟩
        rw [flds_put_pieces]
        refine ⟨_, rfl, _, rfl, p, C, dx, _, _, rfl, upd_same, T.cl, T.nSiz, flds_sizes, _, rfl, d, _, rfl, DPut.k (k := ki b) (Eq.trans (upd_ne npd.symm) c5') zl, ?_⟩
        rw [kvz_put (key_free ok2.good)]
        refine ⟨_, rfl, _, rfl, _, _, rfl, rfl, _, rfl, p, C, dx, _, rfl, Eq.trans (upd_ne npd) upd_same, T.cl, T.nLas, flds_len, ?_⟩
        rw [flds_put_last]
        exact ⟨_, rfl, TT⟩
end
end OW
/-! The class Heap: give. -/
namespace OW
open PySem PySem.Spec PyProof.Rows L2 OO
/-! ### sorting a row -/
def kk (R : Row) : V → Int × Int
  | .ref t => ((R.find? fun e => decide (e.1 = t)).map (·.2)).getD (0, 0)
  | _ => (0, 0)
theorem kk_of {H : Hp} {R : Row} (h : PL H R) {e : Addr × Int × Int} (m : e ∈ R) : kk R (.ref e.1) = e.2 := by
  show ((R.find? fun e' => decide (e'.1 = e.1)).map (·.2)).getD (0, 0) = e.2
  cases q : R.find? fun e' => decide (e'.1 = e.1) with
  | none =>
    have := List.find?_eq_none.mp q e m
    simp at this
  | some e' =>
    have h1 : e'.1 = e.1 := by simpa using List.find?_some q
    have h2 := h e' (List.mem_of_find?_eq_some q)
    rw [h1, h e m] at h2
    have h3 := HO.tup.inj (Option.some.inj h2)
    have h4 : V.int e.2.1 = V.int e'.2.1 ∧ V.int e.2.2 = V.int e'.2.2 := by simpa using h3
    show e'.2 = e.2
    exact Prod.ext (V.int.inj h4.1).symm (V.int.inj h4.2).symm
theorem kk_at {H : Hp} {R : Row} (h : PL H R) : ∀ x ∈ refs R, ∃ t, x = V.ref t ∧ H t = some (.tup [.int (kk R x).1, .int (kk R x).2]) := fun x m => by
  obtain ⟨e, me, rfl⟩ := List.mem_map.mp m
  exact ⟨e.1, rfl, by rw [kk_of h me]; exact h e me⟩
theorem map_kk {H : Hp} {R : Row} (h : PL H R) : (refs R).map (kk R) = prs R := by
  unfold refs prs
  rw [List.map_map]
  exact List.map_congr_left fun e m => kk_of h m
def adr : V → Addr
  | .ref t => t
  | _ => 0
/-- what sorted hands back, as a row -/
theorem sorted_row {H : Hp} {R : Row} (h : PL H R) {ys : List V} (hs : SrtO.Srtd (ltP (kk R)) ys) (hb : SrtO.Stb (ltP (kk R)) ys (refs R)) :
    ∃ R' : Row, ys = refs R' ∧ PL H R' ∧ (prs R').Perm (prs R) ∧ (prs R').Pairwise (fun p q => ¬ (q.1 < p.1 ∨ (q.1 = p.1 ∧ q.2 < p.2))) := by
  have hy : ∀ y ∈ ys, ∃ t, y = V.ref t ∧ H t = some (.tup [.int (kk R y).1, .int (kk R y).2]) := fun y m => kk_at h y (hb.perm.mem_iff.mp m)
  have e2 : prs (ys.map fun y => (adr y, kk R y)) = ys.map (kk R) := by unfold prs; rw [List.map_map]; rfl
  refine ⟨ys.map fun y => (adr y, kk R y), ?_, fun e m => ?_, ?_, ?_⟩
  · unfold refs
    rw [List.map_map]
    have : ys.map ((fun e : Addr × Int × Int => V.ref e.1) ∘ fun y => (adr y, kk R y)) = ys.map id := List.map_congr_left fun y m => by
      obtain ⟨t, rfl, _⟩ := hy y m
      rfl
    rw [this, List.map_id]
  · obtain ⟨y, my, rfl⟩ := List.mem_map.mp m
    obtain ⟨t, e, q⟩ := hy y my
    show H (adr y) = _
    have : adr y = t := by rw [e]; rfl
    rw [this]
    exact q
  · rw [e2, ← map_kk h]
    exact hb.perm.map _
  · rw [e2]
    refine List.pairwise_map.mpr (hs.imp fun {x y} z => ?_)
    intro w
    have : ltP (kk R) y x = true := by
      unfold ltP SrtO.lexB
      rcases w with w | ⟨w1, w2⟩
      · simp [w]
        omega
      · simp [w1, w2]
    rw [this] at z
    cases z
def spGive (C : Addr) : Sp := fun vs H Q _ => ∃ (p d : Addr) (pol : Pol) (u : Int) (zs pcs : List (Int × Int)) (t la a : Int), vs = [.ref p, .int a] ∧ HeapAt C H p d pol u zs pcs t la ∧ OO.HOk (isBump pol) zs pcs t ∧
  t ≤ 100000 ∧ (look zs a = none → Q (.bl false) H) ∧
  ∀ s, look zs a = some s → ∀ (pcs' : List (Int × Int)) (t' : Int) (H' : Hp), OO.HOk (isBump pol) (dropA zs a) pcs' t' → (isBump pol = false → TopAt (Own (dropA zs a)) t t') → (isBump pol = true → t' = t) → t' ≤ t →
    HeapAt C H' p d pol u (dropA zs a) pcs' t' la → Keep [p, d] H H' → Q (.bl true) H'
section
variable {P : Program} {w : World} {K : PySem.W.Frag} {mg : Str → Option Value} {base : Heap}
theorem scGive : FnScope ["self", "address", "size", "first", "end", "rest", "begin", "room"] ["self", "address"] (defScope sGive) := ⟨rfl, rfl, rfl, by decide +kernel, rfl, by decide +kernel, by decide +kernel⟩
theorem ok_give {f C : Addr} {fd : FuncData} (F : Fun K "give" "Heap.give" sGive f fd) (T : Txt K mg C) : FnOk P w K mg base CX0 1 f fd ["self", "address"] (spGive C) := by
  refine F.ok scGive (fun vs H Q E h => ?_) (fun cdv A outer s H vs Q E hr h => ?_)
  · obtain ⟨p, d, pol, u, zs, pcs, t, la, a, rfl, _⟩ := h
    rfl
  · obtain ⟨p, d, pol, u, zs, pcs, t, la, a, rfl, HA, ok, htl, kno, k⟩ := h
    have hu := hu_of hr
    refine ⟨_, pss_cons (ps_if (pt_cmp (pc_dnotin hu (pv 1) (pe_fld (pv 0) rfl))) (pss_one (ps_ret pe_bl)) pss_nil)
      (pss_cons (ps_set (i := 2) scGive.nd rfl (Or.inl rfl) (pe_dpop1 (pe_fld (pv 0) rfl) (pv 1) ⟨rfl, rfl, rfl, rfl⟩))
      (pss_cons (ps_set (i := 3) scGive.nd rfl (Or.inl rfl) (pv 1))
      (pss_cons (ps_set (i := 4) scGive.nd rfl (Or.inl rfl) (pe_op op_add (pv 1) (pv 2)))
      (pss_cons (ps_set (i := 5) scGive.nd rfl (Or.inl rfl) (pe_lst pa_nil))
      (pss_cons (ps_for PassesOwn.never rfl (pi_list (pe_fld (pv 0) rfl)) (pg_tup rfl (pgs_cons (pg_name (i := 6) scGive.nd rfl (Or.inl rfl)) (pgs_cons (pg_name (i := 7) scGive.nd rfl (Or.inl rfl)) pgs_nil)))
          (pss_one (ps_if (pt_cmpR op_eq (pe_op op_add (pv 6) (pv 7)) (pv 3) (nomark _)) (pss_one (ps_set (i := 3) scGive.nd rfl (Or.inl rfl) (pv 6)))
            (pss_one (ps_if (pt_cmpR op_eq (pv 6) (pv 4) (nomark _)) (pss_one (ps_set (i := 4) scGive.nd rfl (Or.inl rfl) (pe_op op_add (pv 6) (pv 7))))
              (pss_one (ps_expr (pe_bm PySem.F.plainAttrs_list PySem.F.slot_list_append PySem.F.type_list_append mt_append (pv 5) (pa_cons (pe_tup (pa_cons (pv 6) (pa_cons (pv 7) pa_nil))) pa_nil)))))))))
      (pss_cons (ps_if (PW.pt (pw_and (pt_cmpR op_eq (pv 4) (pe_fld (pv 0) rfl) (nomark _)) (pw_and1 (pt_cmpR op_ne (pe_fld (pv 0) rfl) pe_str (nomark _)))))
          (pss_one (ps_fld (pv 0) (pv 3) rfl))
          (pss_one (ps_expr (pe_bm PySem.F.plainAttrs_list PySem.F.slot_list_append PySem.F.type_list_append mt_append (pv 5) (pa_cons (pe_tup (pa_cons (pv 3) (pa_cons (pe_op op_sub (pv 4) (pv 3)) pa_nil))) pa_nil)))))
      (pss_cons (ps_fld (pv 0) (pe_callB cr_sortedPO (by rfl) T.sorted (by decide +kernel) (pa_cons (pv 5) pa_nil)) rfl)
      (pss_one (ps_ret pe_bl))))))))), ?_⟩
    obtain ⟨⟨dx, l, L, h1, h2, h3, h4⟩, h5⟩ := id HA
    have npd : p ≠ d := ne_of h1 h5 (by intro z; cases z)
    have npl : l ≠ p := ne_of h2 h1 (by intro z; cases z)
    have nld : l ≠ d := ne_of h2 h5 (by intro z; cases z)
    refine ⟨_, rfl, _, rfl, p, C, dx, _, _, rfl, h1, T.cl, T.nSiz, flds_sizes, d, _, rfl, DGet.k (k := ki a) h5, _, rfl, ?_⟩
    rw [kvz_val]
    cases hla : look zs a with
    | none => exact iteT (kno hla)
    | some sz =>
      refine iteF ?_
      have ms : (a, sz) ∈ zs := look_some hla
      have hp := ok.good.pos _ ms
      have hs1 : 1 ≤ sz := hp.2.1
      -- size = self._sizes.pop(address)
      refine ⟨_, rfl, p, C, dx, _, _, rfl, h1, T.cl, T.nSiz, flds_sizes, d, rfl, .inl ⟨_, .inl h5⟩, _, rfl, _, ki a, .int sz, h5, rfl, (by rw [kvz_val, hla]; rfl), ?_⟩
      rw [kvz_drop]
      have kp0 : Keep [d] H (upd H d (.dK (kvz (dropA zs a)))) := Keep.put (by simp)
      have g5 : (upd H d (.dK (kvz (dropA zs a)))) d = some (.dK (kvz (dropA zs a))) := upd_same
      generalize upd H d (.dK (kvz (dropA zs a))) = H1 at kp0 g5 ⊢
      have g1 := kp0 _ _ h1 (by simp [npd])
      have g2 := kp0 _ _ h2 (by simp [nld])
      have g3 : PL H1 L := fun e m => kp0 _ _ (h3 e m) (by have := ne_of (h3 e m) h5 (by intro z; cases z); simp [this])
      refine ⟨_, rfl, ?_⟩
      refine ⟨.int a, rfl, .int sz, rfl, _, _, rfl, rfl, ?_⟩
      refine ⟨Nat.zero_le _, fun rl hrl => ?_⟩
      have nrl : ∀ {b o}, H1 b = some o → b ≠ rl := fun e => ne_of_none e hrl
      have s1 : Same H1 (upd H1 rl (.lst [])) := same_new hrl
      -- for begin, room in self._pieces
      refine ⟨_, rfl, p, C, dx, _, _, rfl, s1 _ _ g1, T.cl, T.nPie, flds_pieces, l, rfl, ⟨_, SqL.of (s1 _ _ g2)⟩, ?_⟩
      have lL : L.length = pcs.length := by rw [← h4, prs_length]
      have lP := pcs_len ok htl
      refine for_list (K := K) (a := l) (xs := refs L) (fun i σ H' => ∃ (f e : Int) (R : Row) (v6 v7 : Option V), σ = [some (.ref p), some (.int a), some (.int sz), some (.int f), some (.int e), some (.ref rl), v6, v7] ∧ Same H1 H' ∧
          H' rl = some (.lst (refs R)) ∧ PL H' R ∧ Lent a sz (pcs.take i) f e (prs R) ∧ R.length ≤ i)
        ⟨a, a + sz, [], none, none, rfl, s1, upd_same, fun e m => (by cases m), lent_nil, Nat.le_refl _⟩ (fun i σ H' _ ⟨_, _, _, _, _, _, q, _⟩ => SqL.of (q _ _ g2)) ?_ ?_
      · rintro i x σ H' hi ⟨fi, en, R, v6, v7, rfl, s2, eR, pR, hL, lR⟩
        obtain ⟨tt, b, r, eL, rfl⟩ := refs_get hi
        have eP : pcs[i]? = some (b, r) := by rw [← h4]; exact get_prs eL
        have hiL : i < pcs.length := get_lt eP
        have et : H' tt = some (.tup [.int b, .int r]) := s2 _ _ (g3 _ (mem_get eL))
        have Rb : IsRun (Own zs) t b r := (ok.can.mem (b, r)).mp (mem_get eP)
        have etk : pcs.take (i + 1) = pcs.take i ++ [(b, r)] := by rw [List.take_add_one, eP]; rfl
        obtain ⟨k1, k2, k3⟩ := lent_step (own := Own zs) (top := t) (b := b) (m := r) hs1 (fun q m => (ok.can.mem q).mp (List.mem_of_mem_take m)) (fun q m => by
          obtain ⟨j, hj, e⟩ := List.mem_iff_getElem.mp m
          rw [List.length_take] at hj
          have h2' := (List.pairwise_iff_getElem.mp ok.can.asc) j i (by omega) hiL (by omega)
          rw [List.getElem_take] at e
          obtain ⟨_, e3⟩ := List.getElem?_eq_some_iff.mp eP
          rw [e, e3] at h2'
          exact h2') Rb hL
        rw [← etk] at k1 k2 k3
        refine ⟨tt, _, rfl, SqT.of et, rfl, _, _, rfl, _, _, rfl, rfl, ?_⟩
        refine ⟨.int b, rfl, .int r, rfl, _, _, rfl, rfl, .int fi, rfl, rfl, _, rfl, ?_⟩
        rw [dec_int]
        refine ite2 (fun hc => ?_) (fun hc => ?_)
        · have hc := of_decide_eq_true hc
          exact ⟨.int b, rfl, b, en, R, _, _, rfl, s2, eR, pR, k1 hc, by omega⟩
        · have hc : b + r ≠ fi := fun z => hc (decide_eq_true z)
          refine ⟨.int b, rfl, .int en, rfl, rfl, _, rfl, ?_⟩
          rw [dec_int]
          refine ite2 (fun hd => ?_) (fun hd => ?_)
          · have hd := of_decide_eq_true hd
            exact ⟨.int b, rfl, .int r, rfl, _, _, rfl, rfl, fi, b + r, R, _, _, rfl, s2, eR, pR, k2 hc hd, by omega⟩
          · have hd : b ≠ en := fun z => hd (decide_eq_true z)
            refine ⟨.ref rl, rfl, .inl ⟨rfl, _, SqL.of eR⟩, .int b, rfl, .int r, rfl, (by show 2 ≤ sizeLine; decide), fun tn htn => ?_⟩
            have ntn : rl ≠ tn := ne_of_none eR htn
            have s3 : Same H' (upd H' tn (.tup [.int b, .int r])) := same_new htn
            refine ⟨rl, _, _, rfl, rfl, s3 _ _ eR, (by rw [refs_length]; exact sl (m := 1000000) (by omega) (by omega)), fi, en, R ++ [(tn, b, r)], _, _, rfl, fun b' o e => ?_, ?_, fun e m => ?_, ?_, ?_⟩
            · rw [upd_ne (nrl e)]; exact s3 _ _ (s2 _ _ e)
            · rw [upd_same, refs_snoc]
            · have q := PL.snoc (o := .tup []) (a := b) (b := r) pR htn e m
              rw [upd_ne]
              · exact q
              · intro z
                rw [z, upd_ne ntn, eR] at q
                cases q
            · rw [prs_snoc]
              exact k3 hc hd
            · rw [List.length_append]
              exact Nat.succ_le_succ lR
      · rintro σ H2 ⟨fi, en, R, v6, v7, rfl, s2, eR, pR, hL, lR⟩
        rw [refs_length, lL, List.take_length] at hL
        rw [refs_length] at lR
        have c1 := s2 _ _ g1
        have c5 := s2 _ _ g5
        -- what follows the rest's end: the sort
        have fin : ∀ (H3 : Hp) (R' : Row) (t' : Int) (q : Addr) (ys : List V), H3 p = some (.ins C dx (flds pol u d l t' la)) → H3 d = some (.dK (kvz (dropA zs a))) → PL H3 R' →
            prs R' = (if en = t ∧ isBump pol = false then prs R else prs R ++ [(fi, en - fi)]) → t' = (if en = t ∧ isBump pol = false then fi else t) → Keep [p, d] H H3 →
            SrtO.Srtd (ltP (kk R')) ys → SrtO.Stb (ltP (kk R')) ys (refs R') → H3 q = none → Q (.bl true) (upd (upd H3 q (.lst ys)) p (.ins C dx (flds pol u d q t' la))) := by
          intro H3 R' t' q ys f1 f5 fR em et kp hs hb hq
          obtain ⟨R2, rfl, p2, pm2, pw2⟩ := sorted_row fR hs hb
          rw [em] at pm2
          obtain ⟨hk, hT⟩ := hok_give (bump := isBump pol) ok ms hL pm2 pw2 et
          have nqp : q ≠ p := (ne_of_none f1 hq).symm
          have nqd : d ≠ q := ne_of_none f5 hq
          have s3 : Same H3 (upd H3 q (.lst (refs R2))) := same_new hq
          refine k sz hla (prs R2) t' _ hk hT (fun hb => ?_) ?_ ⟨⟨dx, q, R2, upd_same, ?_, fun e m => ?_, rfl⟩, ?_⟩ (kp.trans ((Keep.of s3).trans (Keep.put (by simp))))
          · rw [et, if_neg (by rw [hb]; exact fun z => Bool.noConfusion z.2)]
          · cases hbp : isBump pol with
            | false => exact (hT hbp).le
            | true => rw [et, if_neg (by rw [hbp]; exact fun z => Bool.noConfusion z.2)]; exact Int.le_refl _
          · rw [upd_ne nqp, upd_same]
          · have z := s3 _ _ (p2 e m)
            rw [upd_ne (ne_of z (s3 _ _ f1) (by intro z; cases z))]
            exact z
          · rw [upd_ne npd.symm, upd_ne nqd]; exact f5
        have kp2 : Keep [p, d] H H2 := (kp0.mono (by simp)).trans (Keep.of s2)
        -- the two ways of the if
        refine ⟨.int en, rfl, _, rfl, p, C, dx, _, _, rfl, c1, T.cl, T.nTop, flds_top, rfl, _, rfl, ?_⟩
        rw [dec_int]
        refine ite2 (fun hc => ?_) (fun hc => ?_)
        · have hc := of_decide_eq_true hc
          refine ⟨_, rfl, p, C, dx, _, _, rfl, c1, T.cl, T.nPol, flds_policy, rfl, _, rfl, ?_⟩
          rw [ps_bump]
          refine ite2 (fun hb => ?_) (fun hb => ?_)
          · have hbf : isBump pol = false := by simpa using hb
            have nrp : p ≠ rl := nrl g1
            refine ⟨.int fi, rfl, _, rfl, p, C, dx, _, rfl, c1, T.cl, T.nTop, flds_len, ?_⟩
            rw [flds_put_top]
            have e3 : (upd H2 p (.ins C dx (flds pol u d l fi la))) rl = some (.lst (refs R)) := by rw [upd_ne nrp.symm]; exact eR
            have p3 : PL (upd H2 p (.ins C dx (flds pol u d l fi la))) R := fun e m => by
              rw [upd_ne (ne_of (pR e m) c1 (by intro z; cases z))]
              exact pR e m
            refine ⟨.ref rl, rfl, rl, _, kk R, rfl, SqL.of e3, kk_at p3, fun ys q hs hb hq => ?_⟩
            refine ⟨_, rfl, p, C, dx, _, rfl, same_new hq _ _ upd_same, T.cl, T.nPie, flds_len, ?_⟩
            rw [flds_put_pieces]
            exact fin _ R fi q ys upd_same (by rw [upd_ne npd.symm]; exact c5) p3 (by rw [if_pos ⟨hc, hbf⟩]) (by rw [if_pos ⟨hc, hbf⟩]) (kp2.trans (Keep.put (by simp))) hs hb hq
          · have hcond : ¬ (en = t ∧ isBump pol = false) := fun z => hb (by rw [z.2]; rfl)
            refine ⟨.ref rl, rfl, .inl ⟨rfl, _, SqL.of eR⟩, .int fi, rfl, .int en, rfl, .int fi, rfl, _, _, rfl, rfl, (by show 2 ≤ sizeLine; decide), fun tn htn => ?_⟩
            dsimp only at htn ⊢
            have ntn : rl ≠ tn := ne_of_none eR htn
            have s3 : Same H2 (upd H2 tn (.tup [.int fi, .int (en - fi)])) := same_new htn
            refine ⟨rl, _, _, rfl, rfl, s3 _ _ eR, (by rw [refs_length]; exact sl (m := 1000000) (by omega) (by omega)), ?_⟩
            have e3 : (upd (upd H2 tn (.tup [.int fi, .int (en - fi)])) rl (.lst (refs R ++ [.ref tn]))) rl = some (.lst (refs (R ++ [(tn, fi, en - fi)]))) := by rw [upd_same, refs_snoc]
            have p3 : PL (upd (upd H2 tn (.tup [.int fi, .int (en - fi)])) rl (.lst (refs R ++ [.ref tn]))) (R ++ [(tn, fi, en - fi)]) := fun e m => by
              have q := PL.snoc (o := .tup []) (a := fi) (b := en - fi) pR htn e m
              rw [upd_ne]
              · exact q
              · intro z
                rw [z, upd_ne ntn, eR] at q
                cases q
            have nrp : p ≠ rl := nrl g1
            have nrd : d ≠ rl := nrl g5
            have d1 : (upd (upd H2 tn (.tup [.int fi, .int (en - fi)])) rl (.lst (refs R ++ [.ref tn]))) p = some (.ins C dx (flds pol u d l t la)) := by rw [upd_ne nrp]; exact s3 _ _ c1
            have d5 : (upd (upd H2 tn (.tup [.int fi, .int (en - fi)])) rl (.lst (refs R ++ [.ref tn]))) d = some (.dK (kvz (dropA zs a))) := by rw [upd_ne nrd]; exact s3 _ _ c5
            have kp3 : Keep [p, d] H (upd (upd H2 tn (.tup [.int fi, .int (en - fi)])) rl (.lst (refs R ++ [.ref tn]))) := fun b o e n => by
              have q := (kp0.mono (ds' := [p, d]) (by simp)) _ _ e n
              rw [upd_ne (nrl q)]
              exact s3 _ _ (s2 _ _ q)
            generalize upd (upd H2 tn (.tup [.int fi, .int (en - fi)])) rl (.lst (refs R ++ [.ref tn])) = H3 at e3 p3 d1 d5 kp3 ⊢
            refine ⟨.ref rl, rfl, rl, _, kk (R ++ [(tn, fi, en - fi)]), rfl, SqL.of e3, kk_at p3, fun ys q hs hb hq => ?_⟩
            refine ⟨_, rfl, p, C, dx, _, rfl, same_new hq _ _ d1, T.cl, T.nPie, flds_len, ?_⟩
            rw [flds_put_pieces]
            exact fin H3 (R ++ [(tn, fi, en - fi)]) t q ys d1 d5 p3 (by rw [if_neg hcond, prs_snoc]) (by rw [if_neg hcond]) kp3 hs hb hq
        · have hcond : ¬ (en = t ∧ isBump pol = false) := fun z => hc (decide_eq_true z.1)
          refine ⟨.ref rl, rfl, .inl ⟨rfl, _, SqL.of eR⟩, .int fi, rfl, .int en, rfl, .int fi, rfl, _, _, rfl, rfl, (by show 2 ≤ sizeLine; decide), fun tn htn => ?_⟩
          dsimp only at htn ⊢
          have ntn : rl ≠ tn := ne_of_none eR htn
          have s3 : Same H2 (upd H2 tn (.tup [.int fi, .int (en - fi)])) := same_new htn
          refine ⟨rl, _, _, rfl, rfl, s3 _ _ eR, (by rw [refs_length]; exact sl (m := 1000000) (by omega) (by omega)), ?_⟩
          have e3 : (upd (upd H2 tn (.tup [.int fi, .int (en - fi)])) rl (.lst (refs R ++ [.ref tn]))) rl = some (.lst (refs (R ++ [(tn, fi, en - fi)]))) := by rw [upd_same, refs_snoc]
          have p3 : PL (upd (upd H2 tn (.tup [.int fi, .int (en - fi)])) rl (.lst (refs R ++ [.ref tn]))) (R ++ [(tn, fi, en - fi)]) := fun e m => by
            have q := PL.snoc (o := .tup []) (a := fi) (b := en - fi) pR htn e m
            rw [upd_ne]
            · exact q
            · intro z
              rw [z, upd_ne ntn, eR] at q
              cases q
          have nrp : p ≠ rl := nrl g1
          have nrd : d ≠ rl := nrl g5
          have d1 : (upd (upd H2 tn (.tup [.int fi, .int (en - fi)])) rl (.lst (refs R ++ [.ref tn]))) p = some (.ins C dx (flds pol u d l t la)) := by rw [upd_ne nrp]; exact s3 _ _ c1
          have d5 : (upd (upd H2 tn (.tup [.int fi, .int (en - fi)])) rl (.lst (refs R ++ [.ref tn]))) d = some (.dK (kvz (dropA zs a))) := by rw [upd_ne nrd]; exact s3 _ _ c5
          have kp3 : Keep [p, d] H (upd (upd H2 tn (.tup [.int fi, .int (en - fi)])) rl (.lst (refs R ++ [.ref tn]))) := fun b o e n => by
            have q := (kp0.mono (ds' := [p, d]) (by simp)) _ _ e n
            rw [upd_ne (nrl q)]
            exact s3 _ _ (s2 _ _ q)
          generalize upd (upd H2 tn (.tup [.int fi, .int (en - fi)])) rl (.lst (refs R ++ [.ref tn])) = H3 at e3 p3 d1 d5 kp3 ⊢
          refine ⟨.ref rl, rfl, rl, _, kk (R ++ [(tn, fi, en - fi)]), rfl, SqL.of e3, kk_at p3, fun ys q hs hb hq => ?_⟩
          refine ⟨_, rfl, p, C, dx, _, rfl, same_new hq _ _ d1, T.cl, T.nPie, flds_len, ?_⟩
          rw [flds_put_pieces]
          exact fin H3 (R ++ [(tn, fi, en - fi)]) t q ys d1 d5 p3 (by rw [if_neg hcond, prs_snoc]) (by rw [if_neg hcond]) kp3 hs hb hq
end
end OW
/-! The law's draws: _law_draws, _law_reader, _law_next. -/
namespace OW
open PySem PySem.Spec PyProof.Rows L2 OO
def spDraws (K : PySem.W.Frag) : Sp := fun vs H Q _ => ∃ (a : Addr) (ns : List Int), vs = [.ref a] ∧ SqL K H a (ns.map V.int) ∧ ns.length ≤ 63 ∧
  ∀ (q : Addr) (ms : List Int) (H' : Hp), Same H H' → H q = none → H' q = some (.lst (ms.map V.int)) → Q (.ref q) H'
theorem ms_snoc (ms : List Int) (z : Int) : (ms ++ [z]).map V.int = ms.map V.int ++ [.int z] := by rw [List.map_append]; rfl
theorem int_get {ns : List Int} {i : Nat} (h : i < ns.length) : ∃ z, (ns.map V.int)[i]? = some (.int z) := by
  refine ⟨ns[i], ?_⟩
  rw [List.getElem?_map, List.getElem?_eq_getElem h]
  rfl
section
variable {P : Program} {w : World} {K : PySem.W.Frag} {mg : Str → Option Value} {base : Heap}
theorem scDraws : FnScope ["_law_script", "_law_draws_here", "_law_k", "_law_cell", "_law_turn", "_law_mixed"] ["_law_script"] (defScope sDraws) := ⟨rfl, rfl, rfl, by decide +kernel, rfl, by decide +kernel, by decide +kernel⟩
theorem ok_draws {f C : Addr} {fd : FuncData} (F : Fun K "_law_draws" "_law_draws" sDraws f fd) (T : Txt K mg C) : FnOk P w K mg base CX0 1 f fd ["_law_script"] (spDraws K) := by
  refine F.ok scDraws (fun vs H Q E h => ?_) (fun cdv A outer s H vs Q E hr h => ?_)
  · obtain ⟨a, ns, rfl, _⟩ := h
    rfl
  · obtain ⟨a, ns, rfl, hS, hlen, k⟩ := h
    have hu := hu_of hr
    refine ⟨_, pss_cons (ps_set (i := 1) scDraws.nd rfl (Or.inl rfl) (pe_lst pa_nil))
      (pss_cons (ps_for PassesOwn.never rfl (pi_range1 rfl T.range (pa_cons (pe_callB (call_min2 rfl) (by rfl) T.min (by decide +kernel) (pa_cons (pe_callB call_len_seq (by rfl) T.len PySem.boot_len (pa_cons (pv 0) pa_nil)) (pa_cons pe_int pa_nil))) pa_nil)) (pg_name (i := 2) scDraws.nd rfl (Or.inl rfl))
        (pss_cons (ps_set (i := 3) scDraws.nd rfl (Or.inl rfl) (pe_callB call_abs (by rfl) T.abs (by decide +kernel) (pa_cons (pe_ix ix_list (pv 0) (pv 2) (fun _ _ => rfl)) pa_nil)))
        (pss_one (ps_if (pt_cmpR op_ge (pv 3) (pe_op op_pow pe_int pe_int) (nomark _))
          (pss_one (ps_for PassesOwn.never rfl (pi_range1 rfl T.range (pa_cons pe_int pa_nil)) (pg_name (i := 4) scDraws.nd rfl (Or.inl rfl))
            (pss_one (ps_if (pt_cmpR op_gt (pv 3) pe_int (nomark _))
              (pss_cons (ps_expr (pe_bm PySem.F.plainAttrs_list PySem.F.slot_list_append PySem.F.type_list_append mt_append (pv 1) (pa_cons (pe_op op_mod (pv 3) pe_int) pa_nil)))
              (pss_one (ps_set (i := 3) scDraws.nd rfl (Or.inl rfl) (pe_op op_fdiv (pv 3) pe_int)))) pss_nil))))
          (pss_cons (ps_set (i := 5) scDraws.nd rfl (Or.inl rfl) (pe_op op_mod (pe_callTy call_int1 (by rfl) T.int (by decide +kernel) (pa_cons (pe_op op_add (pe_op op_add (pe_op op_mul (pe_ix ix_list (pv 0) (pv 2) (fun _ _ => rfl)) pe_int) (pe_op op_mul (pv 2) pe_int)) pe_int) pa_nil)) pe_int))
          (pss_one (ps_for PassesOwn.never rfl (pi_range1 rfl T.range (pa_cons pe_int pa_nil)) (pg_name (i := 4) scDraws.nd rfl (Or.inl rfl))
            (pss_cons (ps_set (i := 5) scDraws.nd rfl (Or.inl rfl) (pe_op op_mod (pe_callTy call_int1 (by rfl) T.int (by decide +kernel) (pa_cons (pe_op op_add (pe_op op_add (pe_op op_mul (pv 5) (pv 5)) (pe_op op_mul (pv 4) pe_int)) pe_int) pa_nil)) pe_int))
            (pss_one (ps_expr (pe_bm PySem.F.plainAttrs_list PySem.F.slot_list_append PySem.F.type_list_append mt_append (pv 1) (pa_cons (pe_op op_mod (pv 5) pe_int) pa_nil))))))))))))
      (pss_one (ps_ret (pv 1)))), ?_⟩
    refine ⟨Nat.zero_le _, fun q hq => ?_⟩
    have s0 : Same H (upd H q (.lst [])) := same_new hq
    have nq : ∀ {b o}, H b = some o → b ≠ q := fun e => ne_of_none e hq
    have cnt : (if (63 : Int) < ((ns.map V.int).length : Nat) then (63 : Int) else ((ns.map V.int).length : Nat)).toNat ≤ ns.length ∧ (if (63 : Int) < ((ns.map V.int).length : Nat) then (63 : Int) else ((ns.map V.int).length : Nat)).toNat ≤ 63 ∧
        -(2 ^ 62) ≤ (if (63 : Int) < ((ns.map V.int).length : Nat) then (63 : Int) else ((ns.map V.int).length : Nat)) ∧ (if (63 : Int) < ((ns.map V.int).length : Nat) then (63 : Int) else ((ns.map V.int).length : Nat)) < 2 ^ 62 := by
      rw [List.length_map]
      split <;> omega
    refine ⟨_, rfl, a, _, rfl, .inl (s0.seq hS), _, _, rfl, _, rfl, cnt.2.2.1, cnt.2.2.2, ?_⟩
    refine for_range (lo := 0) (n := _) (fun i σ H' => ∃ (ms : List Int) (v2 v3 v4 v5 : Option V), σ = [some (.ref a), some (.ref q), v2, v3, v4, v5] ∧ Same H H' ∧ H' q = some (.lst (ms.map V.int)) ∧ ms.length ≤ 20 * i)
      ⟨[], none, none, none, none, rfl, s0, upd_same, Nat.le_refl _⟩ ?_ ?_
    · rintro i σ H1 hi ⟨ms, v2, v3, v4, v5, rfl, s1, e1, l1⟩
      obtain ⟨z, ez⟩ := int_get (ns := ns) (i := i) (by omega)
      have hi63 : i < 63 := by omega
      refine ⟨_, rfl, .int (0 + (i : Int)), rfl, a, _, _, _, rfl, rfl, s1.seq hS, at_of (Int.zero_add _) ez, z, rfl, ?_⟩
      generalize (if z < 0 then -z else z) = az
      refine ⟨.int az, rfl, 10, 18, rfl, rfl, ⟨by decide, by decide, by decide⟩, _, _, rfl, rfl, _, rfl, ?_⟩
      refine ite2 (fun hc => ?_) (fun hc => ?_)
      · -- for turn in range(20)
        refine ⟨20, rfl, by decide, by decide, ?_⟩
        refine for_range (lo := 0) (n := 20) (fun j σ H' => ∃ (ms : List Int) (c : Int) (v2 v4 v5 : Option V), σ = [some (.ref a), some (.ref q), v2, some (.int c), v4, v5] ∧ Same H H' ∧ H' q = some (.lst (ms.map V.int)) ∧ ms.length ≤ 20 * i + j)
          ⟨ms, az, _, _, _, rfl, s1, e1, l1⟩ ?_ ?_
        · rintro j σ H2 hj ⟨ms, c, v2, v4, v5, rfl, s2, e2, l2⟩
          refine ⟨.int c, rfl, _, _, rfl, rfl, _, rfl, ?_⟩
          refine ite2 (fun hc => ?_) (fun hc => ?_)
          · refine ⟨.ref q, rfl, .inl ⟨rfl, _, SqL.of e2⟩, .int c, rfl, _, _, rfl, rfl, (by show (0 : Int) < 1000; decide), q, _, _, rfl, rfl, e2, (by rw [List.length_map]; exact sl (m := 1000000) (by omega) (by omega)), ?_⟩
            refine ⟨.int c, rfl, _, _, rfl, rfl, ⟨by decide, by decide⟩, ms ++ [c % 1000], c / 1000, _, _, _, rfl, fun b o e => ?_, ?_, ?_⟩
            · rw [upd_ne (nq e)]; exact s2 _ _ e
            · rw [upd_same, ms_snoc]
            · rw [List.length_append]; show ms.length + 1 ≤ _; omega
          · exact ⟨ms, c, _, _, _, rfl, s2, e2, by omega⟩
        · rintro σ H2 ⟨ms, c, v2, v4, v5, rfl, s2, e2, l2⟩
          exact ⟨ms, _, _, _, _, rfl, s2, e2, by omega⟩
      · refine ⟨_, rfl, .int (0 + (i : Int)), rfl, a, _, _, _, rfl, rfl, s1.seq hS, at_of (Int.zero_add _) ez, _, _, rfl, rfl, .inr ⟨by decide, by decide⟩, .int (0 + (i : Int)), rfl, _, _, rfl, rfl, .inr ⟨by decide, by decide⟩, _, _, rfl, rfl, _, _, rfl, rfl, .inl ⟨_, rfl, _, _, rfl, rfl, (by show (0 : Int) < 2147483647; decide), ?_⟩⟩
        refine ⟨3, rfl, by decide, by decide, ?_⟩
        refine for_range (lo := 0) (n := 3) (fun j σ H' => ∃ (ms : List Int) (c : Int) (v2 v3 v4 : Option V), σ = [some (.ref a), some (.ref q), v2, v3, v4, some (.int c)] ∧ Same H H' ∧ H' q = some (.lst (ms.map V.int)) ∧ ms.length ≤ 20 * i + j ∧ 0 ≤ c ∧ c < 2147483647)
          ⟨ms, _, _, _, _, rfl, s1, e1, l1, Int.emod_nonneg _ (by decide), Int.emod_lt_of_pos _ (by decide)⟩ ?_ ?_
        · rintro j σ H2 hj ⟨ms, c, v2, v3, v4, rfl, s2, e2, l2, c0, c1⟩
          refine ⟨.int c, rfl, .int c, rfl, _, _, rfl, rfl, .inl ⟨by omega, by omega⟩, .int (0 + (j : Int)), rfl, _, _, rfl, rfl, .inr ⟨by decide, by decide⟩, _, _, rfl, rfl, _, _, rfl, rfl, .inl ⟨_, rfl, _, _, rfl, rfl, (by show (0 : Int) < 2147483629; decide), ?_⟩⟩
          generalize hcc : (c * c + (0 + (j : Int)) * 7919 + 17) % 2147483629 = cc
          have cc0 : 0 ≤ cc ∧ cc < 2147483629 := by rw [← hcc]; exact ⟨Int.emod_nonneg _ (by decide), Int.emod_lt_of_pos _ (by decide)⟩
          refine ⟨.ref q, rfl, .inl ⟨rfl, _, SqL.of e2⟩, .int cc, congrArg (fun z => some (some (V.int z))) hcc, _, _, rfl, rfl, (by show (0 : Int) < 1000; decide), q, _, _, rfl, rfl, e2, (by rw [List.length_map]; exact sl (m := 1000000) (by omega) (by omega)), ?_⟩
          refine ⟨ms ++ [cc % 1000], cc, v2, v3, some (.int (0 + (j : Int))), ?_, fun b o e => ?_, ?_, ?_, cc0.1, by omega⟩
          · rw [← hcc]; rfl
          · rw [upd_ne (nq e)]; exact s2 _ _ e
          · rw [upd_same, ms_snoc]
          · rw [List.length_append]; show ms.length + 1 ≤ _; omega
        · rintro σ H2 ⟨ms, c, v2, v3, v4, rfl, s2, e2, l2, c0, c1⟩
          exact ⟨ms, _, _, _, _, rfl, s2, e2, by omega⟩
    · rintro σ H1 ⟨ms, v2, v3, v4, v5, rfl, s1, e1, l1⟩
      exact ⟨.ref q, rfl, k q ms H1 s1 hq e1⟩
end
end OW
/-! The law's draws: _law_reader, _law_next. -/
namespace OW
open PySem PySem.Spec PyProof.Rows L2 OO
def dkv (rw : Addr) (at_ seed : Int) : List (Key × V) := [(kt "row", .ref rw), (kt "at", .int at_), (kt "seed", .int seed)]
theorem dkv_put {rw at_ seed} (z : Int) : putK (dkv rw at_ seed) (kt "at") (.int z) = dkv rw z seed := by rfl
theorem dkv_at {rw at_ seed} : valV (dkv rw at_ seed) (kt "at") = some (.int at_) := by rfl
theorem dkv_seed {rw at_ seed} : valV (dkv rw at_ seed) (kt "seed") = some (.int seed) := by rfl
theorem dkv_row {rw at_ seed} : valV (dkv rw at_ seed) (kt "row") = some (.ref rw) := by rfl
structure DrawsAt (H : Hp) (dr : Addr) : Prop where
  at_ : ∃ rw ms a seed, H dr = some (.dK (dkv rw a seed)) ∧ H rw = some (.lst (List.map V.int ms)) ∧ 0 ≤ a ∧ 0 ≤ seed
theorem DrawsAt.keep {H H' : Hp} {dr : Addr} {ds : List Addr} (h : DrawsAt H dr) (k : Keep ds H H') (n : dr ∉ ds) (hl : ∀ x ∈ ds, ∀ xs, H x ≠ some (.lst xs)) : DrawsAt H' dr := by
  obtain ⟨rw, ms, a, seed, h1, h2, h3, h4⟩ := h
  exact ⟨rw, ms, a, seed, k _ _ h1 n, k _ _ h2 fun m => hl _ m _ h2, h3, h4⟩
def spReader (K : PySem.W.Frag) : Sp := fun vs H Q _ => ∃ (a : Addr) (ns : List Int), vs = [.ref a] ∧ SqL K H a (ns.map V.int) ∧ ns.length ≤ 63 ∧
  ∀ (dr : Addr) (H' : Hp), Same H H' → H dr = none → DrawsAt H' dr → Q (.ref dr) H'
def spNext : Sp := fun vs H Q _ => ∃ (dr : Addr) (many : Int), vs = [.ref dr, .int many] ∧ DrawsAt H dr ∧ 0 < many ∧
  ∀ (v : Int) (H' : Hp), 0 ≤ v → v < many → DrawsAt H' dr → Keep [dr] H H' → Q (.int v) H'
section
variable {P : Program} {w : World} {K : PySem.W.Frag} {mg : Str → Option Value} {base : Heap}
theorem scReader : FnScope ["_law_script", "_law_row", "_law_seed"] ["_law_script"] (defScope sReader) := ⟨rfl, rfl, rfl, by decide +kernel, rfl, by decide +kernel, by decide +kernel⟩
theorem ok_reader {f fD C : Addr} {fd fdD : FuncData} (F : Fun K "_law_reader" "_law_reader" sReader f fd) (T : Txt K mg C) (GD : FnOk P w K mg base CX0 1 fD fdD ["_law_script"] (spDraws K)) (bD : Binds K fdD ["_law_script"] []) (mD : mg "_law_draws" = some (.ref fD)) (kD : PySem.W.keepIn K (.ref fD) = true) :
    FnOk P w K mg base CX0 2 f fd ["_law_script"] (spReader K) := by
  refine F.ok scReader (fun vs H Q E h => ?_) (fun cdv A outer s H vs Q E hr h => ?_)
  · obtain ⟨a, ns, rfl, _⟩ := h
    rfl
  · obtain ⟨a, ns, rfl, hS, hlen, k⟩ := h
    have hu := hu_of hr
    refine ⟨_, pss_cons (ps_set (i := 1) scReader.nd rfl (Or.inl rfl) (pe_call GD hr rfl mD kD bD .nil pass0 (pa_cons (pv 0) pa_nil)))
      (pss_cons (ps_set (i := 2) scReader.nd rfl (Or.inl rfl) pe_int)
      (pss_cons (ps_if (pt_cmpR op_gt (pe_callB call_len_seq (by rfl) T.len PySem.boot_len (pa_cons (pv 0) pa_nil)) pe_int (nomark _))
        (pss_one (ps_set (i := 2) scReader.nd rfl (Or.inl rfl) (pe_op op_mod (pe_callB call_abs (by rfl) T.abs (by decide +kernel) (pa_cons (pe_ix ix_list (pv 0) (pe_un un_neg pe_int) (fun _ _ => rfl)) pa_nil)) pe_int))) pss_nil)
      (pss_one (ps_ret (pe_disp (pps_cons pe_str (pv 1) (pps_cons pe_str pe_int (pps_cons pe_str (pv 2) pps_nil))) (by rfl) (by rfl) (fun z => by cases z) (by decide)))))), ?_⟩
    refine ⟨_, rfl, a, ns, rfl, hS, hlen, fun q ms H1 s1 hq e1 => ?_⟩
    have fin : ∀ (seed : Int) (dr : Addr), 0 ≤ seed → H1 dr = none → Q (.ref dr) (upd (upd H1 dr (.dK [])) dr (.dK (mergeK [] (dkv q 0 seed)))) := fun seed dr h0 hd => by
      have hd0 : H dr = none := s1.free hd
      have nqd : q ≠ dr := ne_of_none e1 hd
      refine k dr _ (fun b o e => ?_) hd0 ⟨q, ms, 0, seed, upd_same, ?_, Int.le_refl _, h0⟩
      · rw [upd_ne (ne_of_none e hd0), upd_ne (ne_of_none e hd0)]; exact s1 _ _ e
      · rw [upd_ne nqd, upd_ne nqd]; exact e1
    refine ⟨_, rfl, a, _, rfl, .inl (s1.seq hS), _, _, rfl, rfl, _, rfl, ?_⟩
    refine ite2 (fun hc => ?_) (fun hc => ?_)
    · have hc := of_decide_eq_true hc
      rw [List.length_map] at hc
      obtain ⟨init, z, ez⟩ : ∃ init z, ns = init ++ [z] := by
        rcases List.eq_nil_or_concat ns with e | ⟨i, z, e⟩
        · rw [e] at hc; exact absurd hc (by decide)
        · exact ⟨i, z, by rw [e, List.concat_eq_append]⟩
      have em : ns.map V.int = init.map V.int ++ [.int z] := by rw [ez, ms_snoc]
      refine ⟨_, rfl, _, rfl, a, _, _, _, rfl, rfl, s1.seq hS, (by rw [em]; exact atI_last _ _), z, rfl, _, _, rfl, rfl, (by show (0 : Int) < 1000003; decide), ?_⟩
      generalize (if z < 0 then -z else z) = az
      intro dr hd
      exact ⟨.ref q, rfl, .int (az % 1000003), rfl, upd_same, dkv q 0 (az % 1000003), rfl, (by show 3 ≤ 15; decide), fin _ dr (Int.emod_nonneg _ (by decide)) hd⟩
    · intro dr hd
      exact ⟨.ref q, rfl, .int 5, rfl, upd_same, dkv q 0 5, rfl, (by show 3 ≤ 15; decide), fin _ dr (by decide) hd⟩
theorem scNext : FnScope ["_law_draws_here", "_law_many", "_law_at", "_law_mixed"] ["_law_draws_here", "_law_many"] (defScope sNext) := ⟨rfl, rfl, rfl, by decide +kernel, rfl, by decide +kernel, by decide +kernel⟩
theorem ok_next {f C : Addr} {fd : FuncData} (F : Fun K "_law_next" "_law_next" sNext f fd) (T : Txt K mg C) : FnOk P w K mg base CX0 1 f fd ["_law_draws_here", "_law_many"] spNext := by
  refine F.ok scNext (fun vs H Q E h => ?_) (fun cdv A outer s H vs Q E hr h => ?_)
  · obtain ⟨dr, many, rfl, _⟩ := h
    rfl
  · obtain ⟨dr, many, rfl, ⟨rw_, ms, at_, seed, h1, h2, h3, h4⟩, hm, k⟩ := h
    have hu := hu_of hr
    refine ⟨_, pss_cons (ps_set (i := 2) scNext.nd rfl (Or.inl rfl) (pe_dget hu (pv 0) pe_str (fun _ _ => rfl)))
      (pss_cons (ps_dput hu (pv 0) pe_str (pe_op op_add (pv 2) pe_int) rfl)
      (pss_cons (ps_if (pt_cmpR op_lt (pv 2) (pe_callB call_len_seq (by rfl) T.len PySem.boot_len (pa_cons (pe_dget hu (pv 0) pe_str (fun _ _ => rfl)) pa_nil)) (nomark _))
        (pss_one (ps_ret (pe_op op_mod (pe_callTy call_int1 (by rfl) T.int (by decide +kernel) (pa_cons (pe_ix ix_list (pe_dget hu (pv 0) pe_str (fun _ _ => rfl)) (pv 2) (fun _ _ => rfl)) pa_nil)) (pv 1)))) pss_nil)
      (pss_cons (ps_set (i := 3) scNext.nd rfl (Or.inl rfl) (pe_op op_mod (pe_callTy call_int1 (by rfl) T.int (by decide +kernel) (pa_cons (pe_op op_mul (pe_op op_add (pe_op op_add (pe_dget hu (pv 0) pe_str (fun _ _ => rfl)) (pe_op op_mul pe_int (pv 2))) pe_int) pe_int) pa_nil)) pe_int))
      (pss_one (ps_ret (pe_op op_mod (pe_op op_fdiv (pe_op op_mod (pe_callTy call_int1 (by rfl) T.int (by decide +kernel) (pa_cons (pe_op op_add (pe_op op_mul (pv 3) (pv 3)) (pv 2)) pa_nil)) pe_int) pe_int) (pv 1))))))), ?_⟩
    refine ⟨_, rfl, dr, .int at_, rfl, (by have g := DGet.k (k := kt "at") h1; rw [dkv_at] at g; exact g), ?_⟩
    refine ⟨.int at_, rfl, _, _, rfl, rfl, _, rfl, dr, _, rfl, DPut.k (k := kt "at") h1 (by show 3 < sizeLine; decide), ?_⟩
    dsimp only
    rw [dkv_put]
    have kp : Keep [dr] H (upd H dr (.dK (dkv rw_ (at_ + 1) seed))) := Keep.put (by simp)
    have g1 : (upd H dr (.dK (dkv rw_ (at_ + 1) seed))) dr = some (.dK (dkv rw_ (at_ + 1) seed)) := upd_same
    have nrd : rw_ ≠ dr := ne_of h2 h1 (by intro z; cases z)
    have g2 := kp _ _ h2 (by simp [nrd])
    generalize upd H dr (.dK (dkv rw_ (at_ + 1) seed)) = H1 at kp g1 g2 ⊢
    have D1 : DrawsAt H1 dr := ⟨rw_, ms, at_ + 1, seed, g1, g2, by omega, h4⟩
    have gr : DGet H1 dr (.str "row") (some (.ref rw_)) := by have g := DGet.k (k := kt "row") g1; rw [dkv_row] at g; exact g
    refine ⟨.int at_, rfl, _, rfl, dr, _, rfl, gr, rw_, _, rfl, .inl (SqL.of g2), _, _, rfl, rfl, _, rfl, ?_⟩
    refine ite2 (fun hc => ?_) (fun hc => ?_)
    · have hc := of_decide_eq_true hc
      rw [List.length_map] at hc
      obtain ⟨z, ez⟩ := int_get (ns := ms) (i := at_.toNat) (by omega)
      exact ⟨_, rfl, dr, _, rfl, gr, .int at_, rfl, rw_, _, _, _, rfl, rfl, SqL.of g2, at_of (by omega) ez, .inl ⟨z, rfl, .int many, rfl, _, _, rfl, rfl, hm, k _ H1 (Int.emod_nonneg _ (by omega)) (Int.emod_lt_of_pos _ hm) D1 kp⟩⟩
    · refine ⟨_, rfl, dr, .int seed, rfl, (by have g := DGet.k (k := kt "seed") g1; rw [dkv_seed] at g; exact g), .int at_, rfl, _, _, rfl, rfl, .inl ⟨by decide, by decide⟩, _, _, rfl, rfl, _, _, rfl, rfl, _, _, rfl, rfl, .inr ⟨by decide, by decide⟩, .inl ⟨_, rfl, _, _, rfl, rfl, (by show (0 : Int) < 2147483647; decide), ?_⟩⟩
      generalize hmx : ((seed + 17 * at_ + 3) * 48271) % 2147483647 = mx
      have m0 : 0 ≤ mx ∧ mx < 2147483647 := by rw [← hmx]; exact ⟨Int.emod_nonneg _ (by decide), Int.emod_lt_of_pos _ (by decide)⟩
      refine ⟨.int mx, congrArg (fun z => some (some (V.int z))) hmx, .int mx, congrArg (fun z => some (some (V.int z))) hmx, _, _, rfl, rfl, .inl ⟨by omega, by omega⟩, .int at_, rfl, _, _, rfl, rfl, .inl ⟨_, rfl, _, _, rfl, rfl, (by show (0 : Int) < 2147483629; decide), _, _, rfl, rfl, ⟨by decide, by decide⟩, .int many, rfl, _, _, rfl, rfl, hm, ?_⟩⟩
      exact k _ H1 (Int.emod_nonneg _ (by omega)) (Int.emod_lt_of_pos _ hm) D1 kp
end
end OW
/-! The law's model: _law_runs, _law_fits. -/
namespace OW
open PySem PySem.Spec PyProof.Rows L2 OO
def mkv (ow sd : Addr) (t la : Int) : List (Key × V) := [(kt "owner", .ref ow), (kt "sizes", .ref sd), (kt "top", .int t), (kt "last", .int la)]
theorem mkv_owner {ow sd t la} : valV (mkv ow sd t la) (kt "owner") = some (.ref ow) := by rfl
theorem mkv_sizes {ow sd t la} : valV (mkv ow sd t la) (kt "sizes") = some (.ref sd) := by rfl
theorem mkv_top {ow sd t la} : valV (mkv ow sd t la) (kt "top") = some (.int t) := by rfl
theorem mkv_last {ow sd t la} : valV (mkv ow sd t la) (kt "last") = some (.int la) := by rfl
theorem mkv_put_top {ow sd t la} (z : Int) : putK (mkv ow sd t la) (kt "top") (.int z) = mkv ow sd z la := by rfl
theorem mkv_put_last {ow sd t la} (z : Int) : putK (mkv ow sd t la) (kt "last") (.int z) = mkv ow sd t z := by rfl
structure ModAt (H : Hp) (mo ow sd : Addr) (N : Nat) (zs : List (Int × Int)) (t la : Int) : Prop where
  m : H mo = some (.dK (mkv ow sd t la))
  s : H sd = some (.dK (kvz zs))
  o : ∃ owner : List (Key × V), H ow = some (.dK owner) ∧ owner.length ≤ N ∧ ∀ w, (valV owner (ki w)).isSome = true ↔ Own zs w
  ne : mo ≠ ow ∧ mo ≠ sd ∧ ow ≠ sd
section
variable {H : Hp} {mo ow sd : Addr} {N : Nat} {zs : List (Int × Int)} {t la : Int}
theorem ModAt.gOwner (M : ModAt H mo ow sd N zs t la) : DGet H mo (.str "owner") (some (.ref ow)) := by have g := DGet.k (k := kt "owner") M.m; rw [mkv_owner] at g; exact g
theorem ModAt.gSizes (M : ModAt H mo ow sd N zs t la) : DGet H mo (.str "sizes") (some (.ref sd)) := by have g := DGet.k (k := kt "sizes") M.m; rw [mkv_sizes] at g; exact g
theorem ModAt.gTop (M : ModAt H mo ow sd N zs t la) : DGet H mo (.str "top") (some (.int t)) := by have g := DGet.k (k := kt "top") M.m; rw [mkv_top] at g; exact g
theorem ModAt.gLast (M : ModAt H mo ow sd N zs t la) : DGet H mo (.str "last") (some (.int la)) := by have g := DGet.k (k := kt "last") M.m; rw [mkv_last] at g; exact g
theorem ModAt.same {H' : Hp} (M : ModAt H mo ow sd N zs t la) (s : Same H H') : ModAt H' mo ow sd N zs t la := by
  obtain ⟨owner, o1, o2, o3⟩ := M.o
  exact ⟨s _ _ M.m, s _ _ M.s, ⟨owner, s _ _ o1, o2, o3⟩, M.ne⟩
theorem ModAt.keep {H' : Hp} {ds : List Addr} (M : ModAt H mo ow sd N zs t la) (k : Keep ds H H') (h1 : mo ∉ ds) (h2 : ow ∉ ds) (h3 : sd ∉ ds) : ModAt H' mo ow sd N zs t la := by
  obtain ⟨owner, o1, o2, o3⟩ := M.o
  exact ⟨k _ _ M.m h1, k _ _ M.s h3, ⟨owner, k _ _ o1 h2, o2, o3⟩, M.ne⟩
end
theorem ixN_last {α : Type} (xs : List α) (v : α) : ixN (xs ++ [v]).length (-1) = some xs.length := by
  have hl : (xs ++ [v]).length = xs.length + 1 := by simp
  unfold ixN
  rw [hl, if_neg (by decide), if_pos (by omega)]
  congr 1
  omega
theorem set_last {α : Type} (xs : List α) (v y : α) : (xs ++ [v]).set xs.length y = xs ++ [y] := by
  rw [List.set_append_right _ _ (Nat.le_refl _), Nat.sub_self]
  rfl
def spRuns : Sp := fun vs H Q _ => ∃ (mo ow sd : Addr) (N : Nat) (zs : List (Int × Int)) (t la : Int), vs = [.ref mo] ∧ ModAt H mo ow sd N zs t la ∧ 1 ≤ t ∧ t ≤ 100000 ∧
  ∀ (q : Addr) (H' : Hp) (L : Row), Same H H' → H q = none → H' q = some (.lst (refs L)) → PL H' L → Canon (Own zs) t (prs L) → Q (.ref q) H'
def spFits : Sp := fun vs H Q _ => ∃ (mo ow sd : Addr) (N : Nat) (zs : List (Int × Int)) (t la size : Int), vs = [.ref mo, .int size] ∧ ModAt H mo ow sd N zs t la ∧ 1 ≤ t ∧ t ≤ 100000 ∧
  ∀ (q : Addr) (H' : Hp) (L : Row) (rs : List (Int × Int)), Same H H' → H q = none → H' q = some (.lst (refs L)) → PL H' L → Canon (Own zs) t rs → prs L = rs.filter (fun p => decide (size ≤ p.2)) → L.length ≤ 100000 → Q (.ref q) H'
section
variable {P : Program} {w : World} {K : PySem.W.Frag} {mg : Str → Option Value} {base : Heap}
theorem scRuns : FnScope ["_law_m", "_law_found", "_law_word"] ["_law_m"] (defScope sRuns) := ⟨rfl, rfl, rfl, by decide +kernel, rfl, by decide +kernel, by decide +kernel⟩
theorem ok_runs {f C : Addr} {fd : FuncData} (F : Fun K "_law_runs" "_law_runs" sRuns f fd) (T : Txt K mg C) : FnOk P w K mg base CX0 1 f fd ["_law_m"] spRuns := by
  refine F.ok scRuns (fun vs H Q E h => ?_) (fun cdv A outer s H vs Q E hr h => ?_)
  · obtain ⟨mo, ow, sd, N, zs, t, la, rfl, _⟩ := h
    rfl
  · obtain ⟨mo, ow, sd, N, zs, t, la, rfl, M, t1, tl, k⟩ := h
    have hu := hu_of hr
    refine ⟨_, pss_cons (ps_set (i := 1) scRuns.nd rfl (Or.inl rfl) (pe_lst pa_nil))
      (pss_cons (ps_for PassesOwn.never rfl (pi_range2 rfl T.range (pa_cons pe_int (pa_cons (pe_dget hu (pv 0) pe_str (fun _ _ => rfl)) pa_nil))) (pg_name (i := 2) scRuns.nd rfl (Or.inl rfl))
        (pss_one (ps_if (pt_cmp (pc_dnotin hu (pv 2) (pe_dget hu (pv 0) pe_str (fun _ _ => rfl))))
          (pss_one (ps_if (PW.pt (pw_and (pt_cmpR (op_neD hr.units) (pv 1) (pe_lst pa_nil) (nomark _)) (pw_and1 (pt_cmpR op_eq (pe_op op_add (pe_ix ix_tup (pe_ix ix_list (pv 1) (pe_un un_neg pe_int) (fun _ _ => rfl)) pe_int (fun _ _ => rfl)) (pe_ix ix_tup (pe_ix ix_list (pv 1) (pe_un un_neg pe_int) (fun _ _ => rfl)) pe_int (fun _ _ => rfl))) (pv 2) (nomark _)))))
            (pss_one (ps_asg (pe_tup (pa_cons (pe_ix ix_tup (pe_ix ix_list (pv 1) (pe_un un_neg pe_int) (fun _ _ => rfl)) pe_int (fun _ _ => rfl)) (pa_cons (pe_op op_add (pe_ix ix_tup (pe_ix ix_list (pv 1) (pe_un un_neg pe_int) (fun _ _ => rfl)) pe_int (fun _ _ => rfl)) pe_int) pa_nil))) (pg_sub (pv 1) (pe_un un_neg pe_int) set_list)))
            (pss_one (ps_expr (pe_bm PySem.F.plainAttrs_list PySem.F.slot_list_append PySem.F.type_list_append mt_append (pv 1) (pa_cons (pe_tup (pa_cons (pv 2) (pa_cons pe_int pa_nil))) pa_nil)))))) pss_nil)))
      (pss_one (ps_ret (pv 1)))), ?_⟩
    refine ⟨Nat.zero_le _, fun q hq => ?_⟩
    have nq : ∀ {b o}, H b = some o → b ≠ q := fun e => ne_of_none e hq
    have s0 : Same H (upd H q (.lst [])) := same_new hq
    refine ⟨_, rfl, mo, _, rfl, (M.same s0).gTop, 1, t, rfl, ⟨by decide, by decide, by omega, by omega⟩, ?_⟩
    refine for_range (lo := 1) (n := (t - 1).toNat) (fun i σ H' => ∃ (L : Row) (v2 : Option V), σ = [some (.ref mo), some (.ref q), v2] ∧ Same H H' ∧ H' q = some (.lst (refs L)) ∧ PL H' L ∧ Canon (Own zs) (1 + (i : Int)) (prs L) ∧ Cover (Own zs) (1 + (i : Int)) (prs L))
      ⟨[], none, rfl, s0, upd_same, fun e m => (by cases m), (runs_nil _).1, (runs_nil _).2⟩ ?_ ?_
    · rintro i σ H1 hi ⟨L, v2, rfl, s1, e1, p1, c1, v1⟩
      have M1 := M.same s1
      obtain ⟨owner, o1, o2, o3⟩ := M1.o
      have lenL : L.length ≤ 100000 := by
        have := canon_len c1 (by omega)
        rw [prs_length] at this
        omega
      have en : (1 + ((i + 1 : Nat) : Int)) = 1 + (i : Int) + 1 := by omega
      refine ⟨.int (1 + (i : Int)), rfl, _, rfl, mo, _, rfl, M1.gOwner, ow, _, rfl, DGet.k (k := ki (1 + (i : Int))) o1, _, rfl, ?_⟩
      cases ho : (valV owner (ki (1 + (i : Int)))).isSome with
      | true =>
        refine iteF ?_
        obtain ⟨c2, v2'⟩ := runs_own ((o3 _).mp ho) c1 v1
        exact ⟨L, _, rfl, s1, e1, p1, by rw [en]; exact c2, by rw [en]; exact v2'⟩
      | false =>
        refine iteT ?_
        have nown : ¬ Own zs (1 + (i : Int)) := fun z => by rw [(o3 _).mpr z] at ho; cases ho
        refine ⟨.ref q, rfl, Nat.zero_le _, fun z hz => ?_⟩
        have sz : Same H1 (upd H1 z (.lst [])) := same_new hz
        refine ⟨.list (dP (prs L)), .list (dP []), dp_row (sz _ _ e1) (fun e m => sz _ _ (p1 e m)), dp_row (L := []) upd_same (fun e m => (by cases m)), shp_lP _, shp_lP _, _, rfl, ?_⟩
        rw [eqv_lP]
        have s2 : Same H (upd H1 z (.lst [])) := s1.trans sz
        have e2 := sz _ _ e1
        have p2 : PL (upd H1 z (.lst [])) L := fun e m => sz _ _ (p1 e m)
        generalize upd H1 z (.lst []) = H2 at s2 e2 p2 ⊢
        -- the two ends: one more, or a new one
        have app : (∀ p ∈ prs L, p.1 + p.2 ≠ 1 + (i : Int)) → ∀ tn, H2 tn = none → ∃ l xs y, V.ref q = .ref l ∧ [V.ref tn] = [y] ∧ (upd H2 tn (.tup [.int (1 + (i : Int)), .int 1])) l = some (.lst xs) ∧ xs.length < sizeLine ∧
            ∃ (L' : Row) (v2 : Option V), [some (V.ref mo), some (V.ref q), some (V.int (1 + (i : Int)))] = [some (.ref mo), some (.ref q), v2] ∧ Same H (upd (upd H2 tn (.tup [.int (1 + (i : Int)), .int 1])) l (.lst (xs ++ [y]))) ∧
              (upd (upd H2 tn (.tup [.int (1 + (i : Int)), .int 1])) l (.lst (xs ++ [y]))) q = some (.lst (refs L')) ∧ PL (upd (upd H2 tn (.tup [.int (1 + (i : Int)), .int 1])) l (.lst (xs ++ [y]))) L' ∧ Canon (Own zs) (1 + ((i + 1 : Nat) : Int)) (prs L') ∧ Cover (Own zs) (1 + ((i + 1 : Nat) : Int)) (prs L') := by
          intro hne tn htn
          have ntn : q ≠ tn := ne_of_none e2 htn
          have s3 := same_new (o := .tup [.int (1 + (i : Int)), .int 1]) htn
          obtain ⟨c3, v3⟩ := runs_new (by omega) nown hne c1 v1
          refine ⟨q, _, _, rfl, rfl, s3 _ _ e2, (by rw [refs_length]; exact sl (m := 1000000) (by omega) (by omega)), L ++ [(tn, 1 + (i : Int), 1)], _, rfl, fun b o e => ?_, ?_, fun e m => ?_, ?_, ?_⟩
          · rw [upd_ne (nq e)]; exact s3 _ _ (s2 _ _ e)
          · rw [upd_same, refs_snoc]
          · have g := PL.snoc (o := .tup []) (a := 1 + (i : Int)) (b := 1) p2 htn e m
            rw [upd_ne]
            · exact g
            · intro z
              rw [z, upd_ne ntn, e2] at g
              cases g
          · rw [prs_snoc, en]; exact c3
          · rw [prs_snoc, en]; exact v3
        rcases List.eq_nil_or_concat L with eL | ⟨L0, x, eL⟩
        · subst eL
          refine iteF (iteF ?_)
          refine ⟨.ref q, rfl, .inl ⟨rfl, _, SqL.of e2⟩, .int (1 + (i : Int)), rfl, (by show 2 ≤ sizeLine; decide), fun tn htn => ?_⟩
          exact app (fun p m => by cases m) tn htn
        · obtain ⟨tt, b, r⟩ := x
          rw [List.concat_eq_append] at eL
          subst eL
          rw [show (prs (L0 ++ [(tt, b, r)])).isEmpty = false by rw [prs_snoc]; cases prs L0 <;> rfl]
          refine iteT ?_
          have et : H2 tt = some (.tup [.int b, .int r]) := p2 (tt, b, r) (by simp)
          have el : atI (refs (L0 ++ [(tt, b, r)])) (-1) = some (.ref tt) := by rw [refs_snoc]; exact atI_last _ _
          refine ⟨.ref q, rfl, _, rfl, q, _, _, _, rfl, rfl, SqL.of e2, el, tt, _, _, _, rfl, rfl, SqT.of et, rfl, .ref q, rfl, _, rfl, q, _, _, _, rfl, rfl, SqL.of e2, el, tt, _, _, _, rfl, rfl, SqT.of et, rfl, b, r, rfl, rfl, .int (1 + (i : Int)), rfl, rfl, _, rfl, ?_⟩
          rw [dec_int]
          refine ite2 (fun hc => ?_) (fun hc => ?_)
          · have hc : b + r = 1 + (i : Int) := of_decide_eq_true hc
            rw [prs_snoc] at c1 v1
            obtain ⟨c3, v3⟩ := runs_grow nown hc c1 v1
            refine ⟨.ref q, rfl, _, rfl, q, _, _, _, rfl, rfl, SqL.of e2, el, tt, _, _, _, rfl, rfl, SqT.of et, rfl, .ref q, rfl, _, rfl, q, _, _, _, rfl, rfl, SqL.of e2, el, tt, _, _, _, rfl, rfl, SqT.of et, rfl, r, 1, rfl, rfl, (by show 2 ≤ sizeLine; decide), fun tn htn => ?_⟩
            dsimp only at htn ⊢
            have ntn : q ≠ tn := ne_of_none e2 htn
            have s3 := same_new (o := .tup [.int b, .int (r + 1)]) htn
            refine ⟨.ref q, rfl, _, rfl, q, _, _, L0.length, rfl, rfl, s3 _ _ e2, (by rw [refs_snoc, show L0.length = (refs L0).length from (refs_length L0).symm]; exact ixN_last _ _), ?_⟩
            refine ⟨L0 ++ [(tn, b, r + 1)], _, rfl, fun b' o e => ?_, ?_, fun e m => ?_, ?_, ?_⟩
            · rw [upd_ne (nq e)]; exact s3 _ _ (s2 _ _ e)
            · rw [upd_same, refs_snoc, refs_snoc, show L0.length = (refs L0).length from (refs_length L0).symm, set_last]
            · have g := PL.snoc (o := .tup []) (a := b) (b := r + 1) (PL.sub p2 (L' := L0) (fun e m => List.mem_append_left _ m)) htn e m
              rw [upd_ne]
              · exact g
              · intro z
                rw [z, upd_ne ntn, e2] at g
                cases g
            · rw [prs_snoc, en]; exact c3
            · rw [prs_snoc, en]; exact v3
          · have hc : b + r ≠ 1 + (i : Int) := fun z => hc (decide_eq_true z)
            refine ⟨.ref q, rfl, .inl ⟨rfl, _, SqL.of e2⟩, .int (1 + (i : Int)), rfl, (by show 2 ≤ sizeLine; decide), fun tn htn => ?_⟩
            refine app ?_ tn htn
            rw [prs_snoc] at c1 ⊢
            exact last_ends c1 hc
    · rintro σ H1 ⟨L, v2, rfl, s1, e1, p1, c1, v1⟩
      have et : (1 + ((t - 1).toNat : Int)) = t := by omega
      rw [et] at c1
      exact ⟨.ref q, rfl, k q H1 L s1 hq e1 p1 c1⟩
theorem scFits : FnScope ["_law_m", "_law_size", "_law_run"] ["_law_m", "_law_size"] (defScope sFits) := ⟨rfl, rfl, rfl, by decide +kernel, rfl, by decide +kernel, by decide +kernel⟩
theorem ok_fits {f fR C : Addr} {fd fdR : FuncData} (F : Fun K "_law_fits" "_law_fits" sFits f fd) (T : Txt K mg C) (GR : FnOk P w K mg base CX0 1 fR fdR ["_law_m"] spRuns) (bR : Binds K fdR ["_law_m"] []) (mR : mg "_law_runs" = some (.ref fR)) (kR : PySem.W.keepIn K (.ref fR) = true) :
    FnOk P w K mg base CX0 2 f fd ["_law_m", "_law_size"] spFits := by
  refine F.ok scFits (fun vs H Q E h => ?_) (fun cdv A outer s H vs Q E hr h => ?_)
  · obtain ⟨mo, ow, sd, N, zs, t, la, size, rfl, _⟩ := h
    rfl
  · obtain ⟨mo, ow, sd, N, zs, t, la, size, rfl, M, t1, tl, k⟩ := h
    have hu := hu_of hr
    refine ⟨_, pss_one (ps_ret (pe_lc (own := [("_law_run", 2)]) (g := gName 2) rfl scFits.nd (pi_list (pe_call GR hr rfl mR kR bR .nil pass0 (pa_cons (pv 0) pa_nil)))
      (blkOk_by (N := ["_law_m", "_law_size", "_law_run"]) (sc := defScope sFits) (by decide +kernel))
      (fun _ _ _ _ _ => pg_name (i := 2) scFits.nd rfl (Or.inl rfl))
      (fun _ _ _ _ _ => pts_one (pt_cmpR op_ge (pe_ix (ix_tupK (K := K) rfl) (pv 2) pe_int (fun _ _ => rfl)) (pv 1) (nomark _)))
      (fun _ _ _ _ _ => pv 2))), ?_⟩
    refine ⟨_, rfl, mo, ow, sd, N, zs, t, la, rfl, M, t1, tl, fun q H1 L s1 hq e1 p1 c1 => ?_⟩
    refine ⟨q, rfl, ⟨_, SqL.of e1⟩, fun D hD => ?_⟩
    have lenL : L.length ≤ 100000 := by
      have := canon_len c1 t1
      rw [prs_length] at this
      omega
    have hD0 : H D = none := s1.free hD
    refine lc_list (K := K) (a := q) (xs := refs L) (fun i H' => Same H1 H' ∧ H' D = some (.lst (refs ((L.take i).filter fun e => decide (size ≤ e.2.2))))) ⟨same_new hD, upd_same⟩ (fun i H' _ hh => SqL.of (hh.1 _ _ e1)) ?_ ?_
    · rintro i x H' hi ⟨s2, e2⟩
      obtain ⟨tt, b, r, eL, rfl⟩ := refs_get hi
      have et : H' tt = some (.tup [.int b, .int r]) := s2 _ _ (p1 _ (mem_get eL))
      have est := tf_step (fun e : Addr × Int × Int => decide (size ≤ e.2.2)) eL
      have hl1 : ((L.take i).filter fun e => decide (size ≤ e.2.2)).length ≤ L.length := Nat.le_trans (List.length_filter_le _ _) (by rw [List.length_take]; omega)
      refine ⟨rfl, _, rfl, tt, _, _, _, rfl, rfl, SqT.of et, rfl, _, rfl, _, _, rfl, rfl, _, rfl, ?_⟩
      refine ite2 (fun hc => ?_) (fun hc => ?_)
      · refine ⟨_, rfl, _, e2, (by rw [refs_length]; exact sl (m := 1000000) (by omega) (by omega)), fun b' o e => ?_, ?_⟩
        · rw [upd_ne (ne_of_none e hD)]; exact s2 _ _ e
        · rw [upd_same, est, if_pos hc, refs_snoc]
      · refine ⟨s2, ?_⟩
        rw [est, if_neg hc, List.append_nil]
        exact e2
    · rintro H2 ⟨s2, e2⟩
      rw [refs_length, List.take_length] at e2
      refine k D H2 _ (prs L) (s1.trans s2) hD0 e2 (fun e m => s2 _ _ (p1 e (List.mem_filter.mp m).1)) c1 ?_ (Nat.le_trans (List.length_filter_le _ _) lenL)
      unfold prs
      rw [List.filter_map]
      rfl
end
end OW
/-! The law's model: _law_chosen. -/
namespace OW
open PySem PySem.Spec PyProof.Rows L2 OO
/-- what fits, in its order -/
abbrev fits (rs : List (Int × Int)) (size : Int) : List (Int × Int) := rs.filter fun p => decide (size ≤ p.2)
theorem fits_mem {rs : List (Int × Int)} {size : Int} {p : Int × Int} : p ∈ fits rs size ↔ p ∈ rs ∧ size ≤ p.2 := by
  rw [List.mem_filter]; simp
theorem head_le {l : List (Int × Int)} {p : Int × Int} {r : List (Int × Int)} (h : l = p :: r) (a : Asc l) : ∀ q ∈ l, p.1 ≤ q.1 := fun q m => by
  rw [h] at a m
  rcases List.mem_cons.mp m with e | m
  · rw [e]; exact Int.le_refl _
  · exact Int.le_of_lt ((List.pairwise_cons.mp a).1 q m)
theorem fits_asc {rs : List (Int × Int)} (h : Asc rs) (P : Int × Int → Bool) : Asc (rs.filter P) := h.sublist List.filter_sublist
theorem lpick_none {pol : Pol} {la size : Int} {rs : List (Int × Int)} (h : fits rs size = []) : Picked pol la size rs none := by
  refine .inr fun q m => ?_
  apply Classical.byContradiction
  intro n
  have : q ∈ fits rs size := fits_mem.mpr ⟨m, by omega⟩
  rw [h] at this
  cases this
theorem lpick_first {la size : Int} {rs r : List (Int × Int)} {p : Int × Int} (a : Asc rs) (h : fits rs size = p :: r) : Picked .first la size rs (some p) := by
  obtain ⟨m1, m2⟩ := fits_mem.mp (show p ∈ fits rs size by rw [h]; simp)
  exact ⟨(by intro z; cases z), m1, m2, fun _ q m hq => head_le h (fits_asc a _) q (fits_mem.mpr ⟨m, hq⟩), fun z => (by cases z), fun z => (by cases z)⟩
theorem lpick_next1 {la size : Int} {rs r : List (Int × Int)} {p : Int × Int} (a : Asc rs) (h : (fits rs size).filter (fun p => decide (la ≤ p.1)) = p :: r) : Picked .next la size rs (some p) := by
  obtain ⟨m0, m3⟩ := List.mem_filter.mp (show p ∈ (fits rs size).filter (fun p => decide (la ≤ p.1)) by rw [h]; simp)
  obtain ⟨m1, m2⟩ := fits_mem.mp m0
  exact ⟨(by intro z; cases z), m1, m2, fun z => (by cases z), fun z => (by cases z), fun _ => .inl ⟨of_decide_eq_true m3, fun q m hq hl => head_le h (fits_asc (fits_asc a _) _) q (List.mem_filter.mpr ⟨fits_mem.mpr ⟨m, hq⟩, decide_eq_true hl⟩)⟩⟩
theorem lpick_next2 {la size : Int} {rs r : List (Int × Int)} {p : Int × Int} (a : Asc rs) (h0 : (fits rs size).filter (fun p => decide (la ≤ p.1)) = []) (h : fits rs size = p :: r) : Picked .next la size rs (some p) := by
  obtain ⟨m1, m2⟩ := fits_mem.mp (show p ∈ fits rs size by rw [h]; simp)
  refine ⟨(by intro z; cases z), m1, m2, fun z => (by cases z), fun z => (by cases z), fun _ => .inr ⟨fun q m hq => ?_, fun q m hq => head_le h (fits_asc a _) q (fits_mem.mpr ⟨m, hq⟩)⟩⟩
  apply Classical.byContradiction
  intro n
  have : q ∈ (fits rs size).filter (fun p => decide (la ≤ p.1)) := List.mem_filter.mpr ⟨fits_mem.mpr ⟨m, hq⟩, decide_eq_true (by omega)⟩
  rw [h0] at this
  cases this
theorem lpick_best {la size : Int} {rs r out : List (Int × Int)} {x y : Int} (hp : out.Perm ((fits rs size).map fun p => (p.2, p.1))) (hs : out.Pairwise (fun p q => ¬ (q.1 < p.1 ∨ (q.1 = p.1 ∧ q.2 < p.2)))) (h : out = (x, y) :: r) : Picked .best la size rs (some (y, x)) := by
  obtain ⟨p, mp, ep⟩ := List.mem_map.mp (hp.mem_iff.mp (show (x, y) ∈ out by rw [h]; simp))
  obtain ⟨m1, m2⟩ := fits_mem.mp mp
  have e1 : p.2 = x := congrArg Prod.fst ep
  have e2 : p.1 = y := congrArg Prod.snd ep
  have e3 : p = (y, x) := Prod.ext e2 e1
  rw [e3] at m1 m2
  refine ⟨(by intro z; cases z), m1, m2, fun z => (by cases z), fun _ q m hq => ?_, fun z => (by cases z)⟩
  have mq : (q.2, q.1) ∈ out := hp.mem_iff.mpr (List.mem_map.mpr ⟨q, fits_mem.mpr ⟨m, hq⟩, rfl⟩)
  rw [h] at mq hs
  show x < q.2 ∨ (x = q.2 ∧ y ≤ q.1)
  rcases List.mem_cons.mp mq with e | mq
  · have z1 : q.2 = x := congrArg Prod.fst e
    have z2 : q.1 = y := congrArg Prod.snd e
    omega
  · have z : ¬ (q.2 < x ∨ (q.2 = x ∧ q.1 < y)) := (List.pairwise_cons.mp hs).1 _ mq
    omega
/-- the pairs turned round, as a row -/
def spLChosen : Sp := fun vs H Q _ => ∃ (mo ow sd : Addr) (N : Nat) (zs : List (Int × Int)) (t la size : Int) (pol : Pol), vs = [.ref mo, .str (ps pol), .int size] ∧ ModAt H mo ow sd N zs t la ∧ 1 ≤ t ∧ t ≤ 100000 ∧
  ∀ (o : Option (Int × Int)) (rs : List (Int × Int)) (H' : Hp), Same H H' → Canon (Own zs) t rs → Picked pol la size rs o → Q (.int (addr o t)) H'
section
variable {P : Program} {w : World} {K : PySem.W.Frag} {mg : Str → Option Value} {base : Heap}
theorem scLChosen : FnScope ["_law_m", "_law_policy", "_law_size", "_law_runs_here", "_law_many", "_law_address", "_law_run"] ["_law_m", "_law_policy", "_law_size"] (defScope sLChosen) := ⟨rfl, rfl, rfl, by decide +kernel, rfl, by decide +kernel, by decide +kernel⟩
theorem ok_lchosen {f fF C : Addr} {fd fdF : FuncData} (F : Fun K "_law_chosen" "_law_chosen" sLChosen f fd) (T : Txt K mg C) (GF : FnOk P w K mg base CX0 2 fF fdF ["_law_m", "_law_size"] spFits) (bF : Binds K fdF ["_law_m", "_law_size"] []) (mF : mg "_law_fits" = some (.ref fF)) (kF : PySem.W.keepIn K (.ref fF) = true) :
    FnOk P w K mg base CX0 3 f fd ["_law_m", "_law_policy", "_law_size"] spLChosen := by
  refine F.ok scLChosen (fun vs H Q E h => ?_) (fun cdv A outer s H vs Q E hr h => ?_)
  · obtain ⟨mo, ow, sd, N, zs, t, la, size, pol, rfl, _⟩ := h
    rfl
  · obtain ⟨mo, ow, sd, N, zs, t, la, size, pol, rfl, M, t1, tl, k⟩ := h
    have hu := hu_of hr
    refine ⟨_, pss_cons (ps_set (i := 3) scLChosen.nd rfl (Or.inl rfl) (pe_call GF hr rfl mF kF bF .nil pass0 (pa_cons (pv 0) (pa_cons (pv 2) pa_nil))))
      (pss_cons (ps_if (PW.pt (pw_or (pt_cmpR op_eq (pv 1) pe_str (nomark _)) (pw_or1 (pt_cmpR (op_eqD hr.units) (pv 3) (pe_lst pa_nil) (nomark _))))) (pss_one (ps_ret (pe_dget hu (pv 0) pe_str (fun _ _ => rfl)))) pss_nil)
      (pss_cons (ps_if (pt_cmpR op_eq (pv 1) pe_str (nomark _))
        (pss_one (ps_ret (pe_ix ix_tup (pe_ix ix_list (pe_callB cr_sortedPO (by rfl) T.sorted (by decide +kernel) (pa_cons
          (pe_lc (own := [("_law_address", 5), ("_law_many", 4)]) (tt := tYes) rfl scLChosen.nd (pi_list (pv 3)) (blkOk_by (N := ["_law_m", "_law_policy", "_law_size", "_law_runs_here", "_law_many", "_law_address", "_law_run"]) (sc := defScope sLChosen) (by decide +kernel))
            (g := gTup K 2 (gCons (gName 5) (gCons (gName 4) gNil)))
            (fun _ _ _ _ _ => pg_tup rfl (pgs_cons (pg_name (i := 5) scLChosen.nd rfl (Or.inl rfl)) (pgs_cons (pg_name (i := 4) scLChosen.nd rfl (Or.inl rfl)) pgs_nil)))
            (fun _ _ _ _ _ => pts_nil)
            (fun _ _ _ _ _ => pe_tup (pa_cons (pv 4) (pa_cons (pv 5) pa_nil)))) pa_nil)) pe_int (fun _ _ => rfl)) pe_int (fun _ _ => rfl)))) pss_nil)
      (pss_cons (ps_if (pt_cmpR op_eq (pv 1) pe_str (nomark _))
        (pss_one (ps_set (i := 3) scLChosen.nd rfl (Or.inl rfl) (pe_op op_cat
          (pe_lc (own := [("_law_run", 6)]) (g := gName 6) rfl scLChosen.nd (pi_list (pv 3)) (blkOk_by (N := ["_law_m", "_law_policy", "_law_size", "_law_runs_here", "_law_many", "_law_address", "_law_run"]) (sc := defScope sLChosen) (by decide +kernel))
            (fun _ _ _ _ _ => pg_name (i := 6) scLChosen.nd rfl (Or.inl rfl))
            (fun _ _ _ _ _ => pts_one (pt_cmpR op_ge (pe_ix (ix_tupK (K := K) rfl) (pv 6) pe_int (fun _ _ => rfl)) (pe_dget hu (pv 0) pe_str (fun _ _ => rfl)) (nomark _)))
            (fun _ _ _ _ _ => pv 6)) (pv 3)))) pss_nil)
      (pss_one (ps_ret (pe_ix ix_tup (pe_ix ix_list (pv 3) pe_int (fun _ _ => rfl)) pe_int (fun _ _ => rfl))))))), ?_⟩
    refine ⟨_, rfl, .int size, rfl, mo, ow, sd, N, zs, t, la, size, rfl, M, t1, tl, fun q H1 L rs s1 hq e1 p1 cn ef lenL => ?_⟩
    have M1 := M.same s1
    have ef : prs L = fits rs size := ef
    have fin : ∀ {H' : Hp} {D tt : Addr} {L' : Row} {b r : Int}, Same H H' → H' D = some (.lst (refs ((tt, b, r) :: L'))) → H' tt = some (.tup [.int b, .int r]) → Picked pol la size rs (some (b, r)) →
        ∃ p xs i v, V.ref D = .ref p ∧ V.int 0 = .int i ∧ SqL K H' p xs ∧ atI xs i = some v ∧ ∃ p xs i v', v = .ref p ∧ V.int 0 = .int i ∧ SqT K H' p xs ∧ atI xs i = some v' ∧ Q v' H' :=
      fun {H' D tt L' b r} q1 q2 q3 q4 => ⟨D, _, _, _, rfl, rfl, SqL.of q2, at_of (j := 0) rfl rfl, tt, _, _, _, rfl, rfl, SqT.of q3, rfl, k _ _ _ q1 cn q4⟩
    refine ⟨.str (ps pol), rfl, rfl, _, rfl, ?_⟩
    rw [ps_bump]
    refine ite2 (fun hb => ?_) (fun hb => ?_)
    · refine iteT ?_
      exact ⟨_, rfl, mo, _, rfl, M1.gTop, k none rs H1 s1 cn (.inl (of_decide_eq_true hb))⟩
    · have nbump : pol ≠ .bump := fun z => hb (decide_eq_true z)
      refine ⟨.ref q, rfl, Nat.zero_le _, fun z hz => ?_⟩
      have sz : Same H1 (upd H1 z (.lst [])) := same_new hz
      refine ⟨.list (dP (prs L)), .list (dP []), dp_row (sz _ _ e1) (fun e m => sz _ _ (p1 e m)), dp_row (L := []) upd_same (fun e m => (by cases m)), shp_lP _, shp_lP _, _, rfl, ?_⟩
      rw [eqv_lP]
      have s2 : Same H (upd H1 z (.lst [])) := s1.trans sz
      have e2 := sz _ _ e1
      have p2 : PL (upd H1 z (.lst [])) L := fun e m => sz _ _ (p1 e m)
      generalize upd H1 z (.lst []) = H2 at s2 e2 p2 ⊢
      have M2 := M.same s2
      refine ite2 (fun hc => ?_) (fun hc => ?_)
      · have h0 : prs L = [] := List.isEmpty_iff.mp hc
        exact ⟨_, rfl, mo, _, rfl, M2.gTop, k none rs H2 s2 cn (lpick_none (by rw [← ef]; exact h0))⟩
      · obtain ⟨t0, b0, r0, L0, eL⟩ : ∃ t0 b0 r0 L0, L = (t0, b0, r0) :: L0 := by
          cases L with
          | nil => exact absurd rfl hc
          | cons x L0 => exact ⟨x.1, x.2.1, x.2.2, L0, rfl⟩
        refine ⟨.str (ps pol), rfl, rfl, _, rfl, ?_⟩
        rw [ps_best]
        refine ite2 (fun hp => ?_) (fun hp => ?_)
        · have hp : pol = .best := of_decide_eq_true hp
          subst hp
          refine ⟨.ref q, rfl, q, rfl, ⟨_, SqL.of e2⟩, fun D hD => ?_⟩
          refine lc_list (K := K) (a := q) (xs := refs L) (fun i H' => Same H2 H' ∧ ∃ L', H' D = some (.lst (refs L')) ∧ PL H' L' ∧ prs L' = ((prs L).take i).map (fun p => (p.2, p.1))) ⟨same_new hD, [], upd_same, fun e m => (by cases m), rfl⟩ (fun i H' _ hh => SqL.of (hh.1 _ _ e2)) ?_ ?_
          · rintro i x H' hi ⟨s3, L', e3, p3, m3⟩
            obtain ⟨tt, b, r, eq_, rfl⟩ := refs_get hi
            have et : H' tt = some (.tup [.int b, .int r]) := s3 _ _ (p2 _ (mem_get eq_))
            refine ⟨tt, _, rfl, SqT.of et, rfl, _, _, rfl, _, _, rfl, rfl, rfl, .int r, rfl, .int b, rfl, (by show 2 ≤ sizeLine; decide), fun tn htn => ?_⟩
            have ntn : D ≠ tn := ne_of_none e3 htn
            have s4 := same_new (o := .tup [.int r, .int b]) htn
            have l3 : L'.length ≤ L.length := by
              have := congrArg List.length m3
              rw [prs_length, List.length_map, List.length_take, prs_length] at this
              omega
            refine ⟨_, s4 _ _ e3, (by rw [refs_length]; exact sl (m := 1000000) (by omega) (by omega)), fun b' o e => ?_, L' ++ [(tn, r, b)], ?_, fun e m => ?_, ?_⟩
            · rw [upd_ne (ne_of_none e hD)]; exact s4 _ _ (s3 _ _ e)
            · rw [upd_same, refs_snoc]
            · have g := PL.snoc (o := .tup []) (a := r) (b := b) p3 htn e m
              rw [upd_ne]
              · exact g
              · intro z
                rw [z, upd_ne ntn, e3] at g
                cases g
            · rw [prs_snoc, m3, tm_step _ (get_prs eq_)]
          · rintro H3 ⟨s3, L', e3, p3, m3⟩
            rw [refs_length, ← prs_length L, List.take_length, ef] at m3
            refine ⟨D, _, kk L', rfl, SqL.of e3, kk_at p3, fun ys qq hs hb' hq' => ?_⟩
            obtain ⟨R, rfl, pR, pm, pw⟩ := sorted_row p3 hs hb'
            rw [m3] at pm
            obtain ⟨tr, x, y, R0, eR⟩ : ∃ tr x y R0, R = (tr, x, y) :: R0 := by
              cases R with
              | nil =>
                have h9 := pm.length_eq
                rw [List.length_map, show fits rs size = prs L from ef.symm, eL] at h9
                cases h9
              | cons x L0 => exact ⟨x.1, x.2.1, x.2.2, L0, rfl⟩
            subst eR
            have et := same_new (o := .lst (refs ((tr, x, y) :: R0))) hq' _ _ (pR (tr, x, y) (by simp))
            refine ⟨qq, _, _, _, rfl, rfl, SqL.of upd_same, at_of (j := 0) rfl rfl, tr, _, _, _, rfl, rfl, SqT.of et, rfl, ?_⟩
            exact k (some (y, x)) rs _ ((s2.trans s3).trans (same_new hq')) cn (lpick_best pm pw rfl)
        · have nbest : pol ≠ .best := fun z => hp (decide_eq_true z)
          refine ⟨.str (ps pol), rfl, rfl, _, rfl, ?_⟩
          rw [ps_next]
          refine ite2 (fun hn => ?_) (fun hn => ?_)
          · have hn : pol = .next := of_decide_eq_true hn
            subst hn
            refine ⟨.ref q, rfl, q, rfl, ⟨_, SqL.of e2⟩, fun D hD => ?_⟩
            refine lc_list (K := K) (a := q) (xs := refs L) (fun i H' => Same H2 H' ∧ H' D = some (.lst (refs ((L.take i).filter fun e => decide (la ≤ e.2.1))))) ⟨same_new hD, upd_same⟩ (fun i H' _ hh => SqL.of (hh.1 _ _ e2)) ?_ ?_
            · rintro i x H' hi ⟨s3, e3⟩
              obtain ⟨tt, b, r, eq_, rfl⟩ := refs_get hi
              have et : H' tt = some (.tup [.int b, .int r]) := s3 _ _ (p2 _ (mem_get eq_))
              have est := tf_step (fun e : Addr × Int × Int => decide (la ≤ e.2.1)) eq_
              have hl1 : ((L.take i).filter fun e => decide (la ≤ e.2.1)).length ≤ L.length := Nat.le_trans (List.length_filter_le _ _) (by rw [List.length_take]; omega)
              refine ⟨rfl, _, rfl, tt, _, _, _, rfl, rfl, SqT.of et, rfl, _, rfl, mo, _, rfl, (M2.same s3).gLast, _, _, rfl, rfl, _, rfl, ?_⟩
              refine ite2 (fun hc => ?_) (fun hc => ?_)
              · refine ⟨_, rfl, _, e3, (by rw [refs_length]; exact sl (m := 1000000) (by omega) (by omega)), fun b' o e => ?_, ?_⟩
                · rw [upd_ne (ne_of_none e hD)]; exact s3 _ _ e
                · rw [upd_same, est, if_pos hc, refs_snoc]
              · refine ⟨s3, ?_⟩
                rw [est, if_neg hc, List.append_nil]
                exact e3
            · rintro H3 ⟨s3, e3⟩
              rw [refs_length, List.take_length] at e3
              have hB : ((fits rs size).filter fun p => decide (la ≤ p.1)) = prs (L.filter fun e => decide (la ≤ e.2.1)) := by
                rw [← ef]
                unfold prs
                rw [List.filter_map]
                rfl
              have hl1 : (L.filter fun e => decide (la ≤ e.2.1)).length ≤ L.length := List.length_filter_le _ _
              have pB : ∀ e ∈ (L.filter fun e => decide (la ≤ e.2.1)), e ∈ L := fun e m => (List.mem_filter.mp m).1
              generalize (L.filter fun e => decide (la ≤ e.2.1)) = B at e3 hB hl1 pB
              refine ⟨.ref q, rfl, D, q, _, _, rfl, rfl, e3, s3 _ _ e2, (by rw [refs_length, refs_length]; exact Nat.le_of_lt (sl (m := 1000000) (by omega) (by omega))), fun l3 n3 => ?_⟩
              have s4 := same_new (o := .lst (refs B ++ refs L)) n3
              have sA : Same H (upd H3 l3 (.lst (refs B ++ refs L))) := (s2.trans s3).trans s4
              have pA : ∀ e ∈ L, (upd H3 l3 (.lst (refs B ++ refs L))) e.1 = some (.tup [.int e.2.1, .int e.2.2]) := fun e m => s4 _ _ (s3 _ _ (p2 e m))
              have eA : (upd H3 l3 (.lst (refs B ++ refs L))) l3 = some (.lst (refs (B ++ L))) := by rw [upd_same]; unfold refs; rw [List.map_append]
              refine ⟨.ref l3, rfl, ?_⟩
              cases B with
              | nil =>
                have eA' : (upd H3 l3 (.lst (refs [] ++ refs L))) l3 = some (.lst (refs ((t0, b0, r0) :: L0))) := by rw [eA, eL]; rfl
                exact fin sA eA' (pA (t0, b0, r0) (by rw [eL]; simp)) (lpick_next2 (r := prs L0) cn.asc hB (by rw [← ef, eL]; rfl))
              | cons e B0 =>
                obtain ⟨tb, bb, rb⟩ := e
                exact fin sA eA (pA (tb, bb, rb) (pB _ (by simp))) (lpick_next1 (r := prs B0) cn.asc hB)
          · have nnext : pol ≠ .next := fun z => hn (decide_eq_true z)
            have hf : pol = .first := by
              cases pol with
              | first => rfl
              | best => exact absurd rfl nbest
              | next => exact absurd rfl nnext
              | bump => exact absurd rfl nbump
            subst hf
            subst eL
            exact ⟨.ref q, rfl, fin s2 e2 (p2 (t0, b0, r0) (by simp)) (lpick_first (r := prs L0) cn.asc (by rw [← ef]; rfl))⟩
end
end OW
/-! The law's model: _law_take, _law_give. -/
namespace OW
open PySem PySem.Spec PyProof.Rows L2 OO
theorem picked_free {pol : Pol} {la size t : Int} {zs rs : List (Int × Int)} {o : Option (Int × Int)} (g : Good zs t) (c : Canon (Own zs) t rs) (h : Picked pol la size rs o) : ∀ w, addr o t ≤ w → w < addr o t + size → ¬ Own zs w := fun w x y z => by
  cases o with
  | none =>
    have h1 := own_lt g z
    have x : t ≤ w := x
    omega
  | some p =>
    have R := (c.mem p).mp h.2.1
    have hs : size ≤ p.2 := h.2.2.1
    have x : p.1 ≤ w := x
    have y : w < p.1 + size := y
    exact R.free w x (by omega) z
theorem addr_pos {pol : Pol} {la size t : Int} {zs rs : List (Int × Int)} {o : Option (Int × Int)} (g : Good zs t) (c : Canon (Own zs) t rs) (h : Picked pol la size rs o) : 1 ≤ addr o t ∧ addr o t ≤ t := by
  cases o with
  | none => exact ⟨g.top1, Int.le_refl _⟩
  | some p =>
    have R := (c.mem p).mp h.2.1
    have h1 := R.b1
    have h2 := R.r1
    have h3 := R.ht
    exact ⟨h1, by show p.1 ≤ t; omega⟩
theorem key_own {zs : List (Int × Int)} {t a : Int} (g : Good zs t) (h : a ∈ zs.map (·.1)) : Own zs a := by
  obtain ⟨p, m, e⟩ := List.mem_map.mp h
  have := g.pos p m
  exact ⟨p, m, by omega, by omega⟩
def spLTake : Sp := fun vs H Q _ => ∃ (mo al ow sd : Addr) (N : Nat) (zs : List (Int × Int)) (t la u many : Int) (pol : Pol), vs = [.ref mo, .ref al, .int many] ∧ H al = some (.tup [.str (ps pol), .int u]) ∧ ModAt H mo ow sd N zs t la ∧ Good zs t ∧ t ≤ 100000 ∧ N ≤ 100000 ∧ zs.length ≤ 1000 ∧
  U4 u ∧ 0 ≤ many ∧ many ≤ 40 ∧
  ∀ (o : Option (Int × Int)) (rs : List (Int × Int)) (H' : Hp), Canon (Own zs) t rs → Picked pol la (sizeOf_ many u) rs o →
    ModAt H' mo ow sd (N + 48) (zs ++ [(addr o t, sizeOf_ many u)]) (topOf t (addr o t + sizeOf_ many u)) (addr o t + sizeOf_ many u) → Keep [mo, ow, sd] H H' → Q (.int (addr o t)) H'
def spLGive : Sp := fun vs H Q _ => ∃ (mo al ow sd : Addr) (N : Nat) (zs : List (Int × Int)) (t la u a : Int) (pol : Pol), vs = [.ref mo, .ref al, .int a] ∧ H al = some (.tup [.str (ps pol), .int u]) ∧ ModAt H mo ow sd N zs t la ∧ Good zs t ∧ t ≤ 100000 ∧
  (look zs a = none → Q (.bl false) H) ∧
  ∀ s, look zs a = some s → ∀ (t' : Int) (H' : Hp), (isBump pol = false → TopAt (Own (dropA zs a)) t t') → (isBump pol = true → t' = t) →
    ModAt H' mo ow sd N (dropA zs a) t' la → Keep [mo, ow, sd] H H' → Q (.bl true) H'
section
variable {P : Program} {w : World} {K : PySem.W.Frag} {mg : Str → Option Value} {base : Heap}
theorem scLTake : FnScope ["_law_m", "_law_allocator", "_law_many", "_law_policy", "_law_unit", "_law_size", "_law_address", "_law_k"] ["_law_m", "_law_allocator", "_law_many"] (defScope sLTake) := ⟨rfl, rfl, rfl, by decide +kernel, rfl, by decide +kernel, by decide +kernel⟩
theorem ok_ltake {f fC C : Addr} {fd fdC : FuncData} (F : Fun K "_law_take" "_law_take" sLTake f fd) (T : Txt K mg C) (GC : FnOk P w K mg base CX0 3 fC fdC ["_law_m", "_law_policy", "_law_size"] spLChosen) (bC : Binds K fdC ["_law_m", "_law_policy", "_law_size"] []) (mC : mg "_law_chosen" = some (.ref fC)) (kC : PySem.W.keepIn K (.ref fC) = true) :
    FnOk P w K mg base CX0 4 f fd ["_law_m", "_law_allocator", "_law_many"] spLTake := by
  refine F.ok scLTake (fun vs H Q E h => ?_) (fun cdv A outer s H vs Q E hr h => ?_)
  · obtain ⟨mo, al, ow, sd, N, zs, t, la, u, many, pol, rfl, _⟩ := h
    rfl
  · obtain ⟨mo, al, ow, sd, N, zs, t, la, u, many, pol, rfl, hal, M, gd, tl, hN, hzl, hu4, hm0, hm1, k⟩ := h
    have hu := hu_of hr
    refine ⟨_, pss_cons (ps_asg (pv 1) (pg_tup rfl (pgs_cons (pg_name (i := 3) scLTake.nd rfl (Or.inl rfl)) (pgs_cons (pg_name (i := 4) scLTake.nd rfl (Or.inl rfl)) pgs_nil))))
      (pss_cons (ps_set (i := 5) scLTake.nd rfl (Or.inl rfl) (pv 4))
      (pss_cons (ps_while PassesOwn.never (pt_cmpR op_lt (pv 5) (pv 2) (nomark _)) (pss_one (ps_set (i := 5) scLTake.nd rfl (Or.inl rfl) (pe_op op_add (pv 5) (pv 4)))))
      (pss_cons (ps_set (i := 6) scLTake.nd rfl (Or.inl rfl) (pe_call GC hr rfl mC kC bC .nil pass0 (pa_cons (pv 0) (pa_cons (pv 3) (pa_cons (pv 5) pa_nil)))))
      (pss_cons (ps_for PassesOwn.never rfl (pi_range1 rfl T.range (pa_cons (pv 5) pa_nil)) (pg_name (i := 7) scLTake.nd rfl (Or.inl rfl)) (pss_one (ps_dput hu (pe_dget hu (pv 0) pe_str (fun _ _ => rfl)) (pe_op op_add (pv 6) (pv 7)) (pv 6) rfl)))
      (pss_cons (ps_dput hu (pe_dget hu (pv 0) pe_str (fun _ _ => rfl)) (pv 6) (pv 5) rfl)
      (pss_cons (ps_dput hu (pv 0) pe_str (pe_callB (call_max2 rfl) (by rfl) T.max (by decide +kernel) (pa_cons (pe_dget hu (pv 0) pe_str (fun _ _ => rfl)) (pa_cons (pe_op op_add (pv 6) (pv 5)) pa_nil))) rfl)
      (pss_cons (ps_dput hu (pv 0) pe_str (pe_op op_add (pv 6) (pv 5)) rfl)
      (pss_one (ps_ret (pv 6)))))))))), ?_⟩
    have hu0 : 0 < u ∧ u ≤ 8 := by rcases hu4 with rfl | rfl | rfl | rfl <;> decide
    have hz : 1 ≤ sizeOf_ many u ∧ sizeOf_ many u ≤ 48 := size_le hu4 hm0 hm1
    refine ⟨_, rfl, al, _, rfl, SqT.of hal, rfl, _, _, rfl, _, _, rfl, rfl, ?_⟩
    refine ⟨.int u, rfl, ?_⟩
    -- while size < many
    refine ⟨fun m σ H' => ∃ z : Int, σ = [some (.ref mo), some (.ref al), some (.int many), some (.str (ps pol)), some (.int u), some (.int z), none, none] ∧ H' = H ∧ m = (many + 10 - z).toNat ∧ z % u = 0 ∧ u ≤ z ∧ (z = u ∨ z < many + u),
      ⟨_, u, rfl, rfl, rfl, Int.emod_self, Int.le_refl _, .inl rfl⟩, ?_⟩
    rintro m σ H' ⟨z, rfl, rfl, rfl, hz1, hz2, hz3⟩
    refine ⟨.int z, rfl, .int many, rfl, _, _, rfl, rfl, _, rfl, ?_⟩
    refine ite2 (fun hc => ?_) (fun hc => ?_)
    · have hc : z < many := of_decide_eq_true hc
      refine ⟨fun σ' H'' => ∃ m', m' < (many + 10 - z).toNat ∧ ∃ z : Int, σ' = [some (.ref mo), some (.ref al), some (.int many), some (.str (ps pol)), some (.int u), some (.int z), none, none] ∧ H'' = H' ∧ m' = (many + 10 - z).toNat ∧ z % u = 0 ∧ u ≤ z ∧ (z = u ∨ z < many + u), fun _ _ h => h, ?_⟩
      exact ⟨.int z, rfl, .int u, rfl, z, u, rfl, rfl, (many + 10 - (z + u)).toNat, by omega, z + u, rfl, rfl, rfl, size_step hu4 hz1, by omega, .inr (by omega)⟩
    · have hc : many ≤ z := by
        have : ¬ z < many := fun q => hc (decide_eq_true q)
        omega
      have hzz : sizeOf_ many u = z := size_eq hu4 hz1 hz2 hz3 hc
      rw [hzz] at hz k
      refine ⟨_, rfl, _, rfl, .int z, rfl, mo, ow, sd, N, zs, t, la, z, pol, rfl, M, gd.top1, tl, fun o rs H1 s1 cn pk => ?_⟩
      have M1 := M.same s1
      obtain ⟨n1, n2, n3⟩ := M.ne
      have hfree := picked_free gd cn pk
      have hpos := addr_pos gd cn pk
      generalize ha : addr o t = a at hfree hpos ⊢
      refine ⟨.int z, rfl, z, rfl, by omega, by omega, ?_⟩
      refine for_range (lo := 0) (n := z.toNat) (fun i σ H' => ∃ v7, σ = [some (.ref mo), some (.ref al), some (.int many), some (.str (ps pol)), some (.int u), some (.int z), some (.int a), v7] ∧ Keep [ow] H1 H' ∧
          ∃ owner : List (Key × V), H' ow = some (.dK owner) ∧ owner.length ≤ N + i ∧ ∀ w, (valV owner (ki w)).isSome = true ↔ Own zs w ∨ (a ≤ w ∧ w < a + (i : Int)))
        ⟨none, rfl, Keep.refl, ?_⟩ ?_ ?_
      · obtain ⟨owner, o1, o2, o3⟩ := M1.o
        refine ⟨owner, o1, o2, fun w => (o3 w).trans ⟨.inl, fun q => q.elim id fun q => ?_⟩⟩
        have q1 := q.1
        have q2 : w < a + 0 := q.2
        omega
      · rintro i σ H2 hi ⟨v7, rfl, kp, owner, o1, o2, o3⟩
        have hm2 := kp _ _ M1.m (by simp [n1])
        have gO : DGet H2 mo (.str "owner") (some (.ref ow)) := by have g := DGet.k (k := kt "owner") hm2; rw [mkv_owner] at g; exact g
        refine ⟨.int a, rfl, _, rfl, mo, _, rfl, gO, .int a, rfl, .int (0 + (i : Int)), rfl, a, 0 + (i : Int), rfl, rfl, ow, _, rfl, DPut.k (k := ki (a + (0 + (i : Int)))) o1 (sl (m := 1000000) (by omega) (by omega)), ?_⟩
        refine ⟨_, rfl, kp.trans (Keep.put (by simp)), _, upd_same, ?_, fun w => ?_⟩
        · have := length_putK owner (ki (a + (0 + (i : Int)))) (.int a)
          omega
        · rw [valV_put]
          by_cases e : w = a + (0 + (i : Int))
          · rw [if_pos (by rw [e])]
            refine ⟨fun _ => .inr (by omega), fun _ => rfl⟩
          · rw [if_neg (fun q => e (Sum.inl.inj q)), o3 w]
            constructor
            · rintro (q | q)
              · exact .inl q
              · exact .inr (by omega)
            · rintro (q | q)
              · exact .inl q
              · exact .inr (by omega)
      · rintro σ H2 ⟨v7, rfl, kp, owner, o1, o2, o3⟩
        have ez : (z.toNat : Int) = z := by omega
        rw [ez] at o3
        have hm2 := kp _ _ M1.m (by simp [n1])
        have hs2 := kp _ _ M1.s (by simp [n3.symm])
        have gS : DGet H2 mo (.str "sizes") (some (.ref sd)) := by have g := DGet.k (k := kt "sizes") hm2; rw [mkv_sizes] at g; exact g
        refine ⟨.int z, rfl, _, rfl, mo, _, rfl, gS, .int a, rfl, sd, _, rfl, DPut.k (k := ki a) hs2 (by rw [kvz_len]; exact small1000 hzl), ?_⟩
        rw [kvz_put (fun q => hfree a (Int.le_refl _) (by omega) (key_own gd q))]
        have hm3 : (upd H2 sd (.dK (kvz (zs ++ [(a, z)])))) mo = some (.dK (mkv ow sd t la)) := by rw [upd_ne n2]; exact hm2
        have gT : DGet (upd H2 sd (.dK (kvz (zs ++ [(a, z)])))) mo (.str "top") (some (.int t)) := by have g := DGet.k (k := kt "top") hm3; rw [mkv_top] at g; exact g
        refine ⟨_, rfl, mo, _, rfl, gT, .int a, rfl, .int z, rfl, a, z, rfl, rfl, t, a + z, rfl, _, rfl, mo, _, rfl, DPut.k (k := kt "top") hm3 (by show 4 < sizeLine; decide), ?_⟩
        rw [mkv_put_top]
        refine ⟨.int a, rfl, .int z, rfl, a, z, rfl, rfl, _, rfl, mo, _, rfl, DPut.k (k := kt "last") upd_same (by show 4 < sizeLine; decide), ?_⟩
        dsimp only
        rw [mkv_put_last]
        refine ⟨.int a, rfl, ?_⟩
        have k := k o rs
        rw [ha] at k
        refine k _ cn (by rw [← hzz]; rw [hzz]; exact pk) ⟨upd_same, ?_, ⟨owner, ?_, by omega, fun w => ?_⟩, M.ne⟩ ?_
        · rw [upd_ne n2.symm, upd_ne n2.symm, upd_same]
        · rw [upd_ne n1.symm, upd_ne n1.symm, upd_ne n3]; exact o1
        · rw [own_snoc]; exact o3 w
        · exact (Keep.of s1).trans ((kp.mono (by simp)).trans ((Keep.put (by simp)).trans ((Keep.put (by simp)).trans (Keep.put (by simp)))))
end
end OW
/-! The law's model: _law_give. -/
namespace OW
open PySem PySem.Spec PyProof.Rows L2 OO
section
variable {P : Program} {w : World} {K : PySem.W.Frag} {mg : Str → Option Value} {base : Heap}
theorem scLGive : FnScope ["_law_m", "_law_allocator", "_law_address", "_law_k"] ["_law_m", "_law_allocator", "_law_address"] (defScope sLGive) := ⟨rfl, rfl, rfl, by decide +kernel, rfl, by decide +kernel, by decide +kernel⟩
theorem ok_lgive {f C : Addr} {fd : FuncData} (F : Fun K "_law_give" "_law_give" sLGive f fd) (T : Txt K mg C) : FnOk P w K mg base CX0 1 f fd ["_law_m", "_law_allocator", "_law_address"] spLGive := by
  refine F.ok scLGive (fun vs H Q E h => ?_) (fun cdv A outer s H vs Q E hr h => ?_)
  · obtain ⟨mo, al, ow, sd, N, zs, t, la, u, a, pol, rfl, _⟩ := h
    rfl
  · obtain ⟨mo, al, ow, sd, N, zs, t, la, u, a, pol, rfl, hal, M, gd, tl, kno, k⟩ := h
    have hu := hu_of hr
    refine ⟨_, pss_cons (ps_if (pt_cmp (pc_dnotin hu (pv 2) (pe_dget hu (pv 0) pe_str (fun _ _ => rfl)))) (pss_one (ps_ret pe_bl)) pss_nil)
      (pss_cons (ps_for PassesOwn.never rfl (pi_range1 rfl T.range (pa_cons (pe_dget hu (pe_dget hu (pv 0) pe_str (fun _ _ => rfl)) (pv 2) (fun _ _ => rfl)) pa_nil)) (pg_name (i := 3) scLGive.nd rfl (Or.inl rfl))
        (pss_one (ps_expr (pe_dpop1 (pe_dget hu (pv 0) pe_str (fun _ _ => rfl)) (pe_op op_add (pv 2) (pv 3)) ⟨rfl, rfl, rfl, rfl⟩))))
      (pss_cons (ps_expr (pe_dpop1 (pe_dget hu (pv 0) pe_str (fun _ _ => rfl)) (pv 2) ⟨rfl, rfl, rfl, rfl⟩))
      (pss_cons (ps_if (pt_cmpR op_ne (pe_ix ix_tup (pv 1) pe_int (fun _ _ => rfl)) pe_str (nomark _))
        (pss_one (ps_while PassesOwn.never (PW.pt (pw_and (pt_cmpR op_gt (pe_dget hu (pv 0) pe_str (fun _ _ => rfl)) pe_int (nomark _)) (pw_and1 (pt_cmp (pc_dnotin hu (pe_op op_sub (pe_dget hu (pv 0) pe_str (fun _ _ => rfl)) pe_int) (pe_dget hu (pv 0) pe_str (fun _ _ => rfl)))))))
          (pss_one (ps_dput hu (pv 0) pe_str (pe_op op_sub (pe_dget hu (pv 0) pe_str (fun _ _ => rfl)) pe_int) rfl)))) pss_nil)
      (pss_one (ps_ret pe_bl))))), ?_⟩
    obtain ⟨n1, n2, n3⟩ := M.ne
    refine ⟨_, rfl, _, rfl, mo, _, rfl, M.gSizes, sd, _, rfl, DGet.k (k := ki a) M.s, _, rfl, ?_⟩
    rw [kvz_val]
    cases hla : look zs a with
    | none => exact iteT (kno hla)
    | some sz =>
      refine iteF ?_
      have ms : (a, sz) ∈ zs := look_some hla
      have hp := gd.pos _ ms
      have hp1 : 1 ≤ a := hp.1
      have hp2 : 1 ≤ sz := hp.2.1
      have hp3 : a + sz ≤ t := hp.2.2
      refine ⟨_, rfl, mo, _, rfl, M.gSizes, _, rfl, sd, .int sz, rfl, (by have g := DGet.k (k := ki a) M.s; rw [kvz_val, hla] at g; exact g), sz, rfl, by omega, by omega, ?_⟩
      refine for_range (lo := 0) (n := sz.toNat) (fun i σ H' => ∃ v3, σ = [some (.ref mo), some (.ref al), some (.int a), v3] ∧ Keep [ow] H H' ∧
          ∃ owner : List (Key × V), H' ow = some (.dK owner) ∧ owner.length ≤ N ∧ ∀ w, (valV owner (ki w)).isSome = true ↔ Own zs w ∧ ¬ (a ≤ w ∧ w < a + (i : Int)))
        ⟨none, rfl, Keep.refl, ?_⟩ ?_ ?_
      · obtain ⟨owner, o1, o2, o3⟩ := M.o
        refine ⟨owner, o1, o2, fun w => (o3 w).trans ⟨fun q => ⟨q, fun z => ?_⟩, fun q => q.1⟩⟩
        have z1 := z.1
        have z2 : w < a + 0 := z.2
        omega
      · rintro i σ H2 hi ⟨v3, rfl, kp, owner, o1, o2, o3⟩
        have hm2 := kp _ _ M.m (by simp [n1])
        have gO : DGet H2 mo (.str "owner") (some (.ref ow)) := by have g := DGet.k (k := kt "owner") hm2; rw [mkv_owner] at g; exact g
        obtain ⟨v, hv⟩ : ∃ v, valV owner (ki (a + (0 + (i : Int)))) = some v := Option.isSome_iff_exists.mp ((o3 _).mpr ⟨⟨_, ms, by show a ≤ _; omega, by show _ < a + sz; omega⟩, by omega⟩)
        refine ⟨_, rfl, mo, _, rfl, gO, ow, rfl, .inl ⟨_, .inl o1⟩, .int a, rfl, .int (0 + (i : Int)), rfl, a, 0 + (i : Int), rfl, rfl, owner, ki (a + (0 + (i : Int))), v, o1, rfl, hv, ?_⟩
        refine ⟨_, rfl, kp.trans (Keep.put (by simp)), _, upd_same, Nat.le_trans (dropK_le _ _) o2, fun w => ?_⟩
        rw [valV_drop]
        by_cases e : w = a + (0 + (i : Int))
        · rw [if_pos (by rw [e])]
          refine ⟨fun q => (by cases q), fun q => absurd ⟨by omega, by omega⟩ q.2⟩
        · rw [if_neg (fun q => e (Sum.inl.inj q)), o3 w]
          exact ⟨fun q => ⟨q.1, fun z => q.2 (by omega)⟩, fun q => ⟨q.1, fun z => q.2 (by omega)⟩⟩
      · rintro σ H2 ⟨v3, rfl, kp, owner, o1, o2, o3⟩
        have ez : (sz.toNat : Int) = sz := by omega
        rw [ez] at o3
        have o4 : ∀ w, (valV owner (ki w)).isSome = true ↔ Own (dropA zs a) w := fun w => (o3 w).trans (own_drop gd ms).symm
        have hm2 := kp _ _ M.m (by simp [n1])
        have hs2 := kp _ _ M.s (by simp [n3.symm])
        have gS : DGet H2 mo (.str "sizes") (some (.ref sd)) := by have g := DGet.k (k := kt "sizes") hm2; rw [mkv_sizes] at g; exact g
        refine ⟨_, rfl, mo, _, rfl, gS, sd, rfl, .inl ⟨_, .inl hs2⟩, _, rfl, _, ki a, .int sz, hs2, rfl, (by rw [kvz_val, hla]; rfl), ?_⟩
        rw [kvz_drop]
        have M3 : ModAt (upd H2 sd (.dK (kvz (dropA zs a)))) mo ow sd N (dropA zs a) t la := ⟨by rw [upd_ne n2]; exact hm2, upd_same, ⟨owner, by rw [upd_ne n3]; exact o1, o2, o4⟩, M.ne⟩
        have kp3 : Keep [mo, ow, sd] H (upd H2 sd (.dK (kvz (dropA zs a)))) := (kp.mono (by simp)).trans (Keep.put (by simp))
        have hal3 := kp3 _ _ hal (by
          have a1 := ne_of hal M.m (by intro z; cases z)
          have a2 := ne_of hal M.s (by intro z; cases z)
          obtain ⟨ow0, q1, _⟩ := M.o
          have a3 := ne_of hal q1 (by intro z; cases z)
          simp [a1, a2, a3])
        generalize upd H2 sd (.dK (kvz (dropA zs a))) = H3 at M3 kp3 hal3 ⊢
        refine ⟨_, rfl, al, _, _, _, rfl, rfl, SqT.of hal3, rfl, rfl, _, rfl, ?_⟩
        rw [ps_bump]
        refine ite2 (fun hb => ?_) (fun hb => ?_)
        · have hbf : isBump pol = false := by simpa using hb
          refine ⟨fun m σ H' => ∃ t' : Int, σ = [some (.ref mo), some (.ref al), some (.int a), v3] ∧ ModAt H' mo ow sd N (dropA zs a) t' la ∧ Keep [mo, ow, sd] H H' ∧ m = t'.toNat ∧ 1 ≤ t' ∧ t' ≤ t ∧ ∀ w, t' ≤ w → w < t → ¬ Own (dropA zs a) w,
            ⟨_, t, rfl, M3, kp3, rfl, by omega, Int.le_refl _, fun w x y => by omega⟩, ?_⟩
          rintro m σ H4 ⟨t', rfl, M4, kp4, rfl, t1', t2', fr⟩
          obtain ⟨owner4, p1, p2, p3⟩ := M4.o
          refine ⟨_, rfl, mo, _, rfl, M4.gTop, t', 1, rfl, rfl, _, rfl, ?_⟩
          have fin : ¬ (1 < t' ∧ ¬ Own (dropA zs a) (t' - 1)) → Q (.bl true) H4 := fun n => by
            refine k sz hla t' H4 (fun _ => ⟨t1', t2', ?_, fr⟩) (fun z => by rw [hbf] at z; cases z) M4 kp4
            by_cases q : t' = 1
            · exact .inl q
            · right
              apply Classical.byContradiction
              intro z
              exact n ⟨by omega, z⟩
          refine ite2 (fun hc => ?_) (fun hc => ?_)
          · have hc : 1 < t' := of_decide_eq_true hc
            refine ⟨_, rfl, mo, _, rfl, M4.gTop, t', 1, rfl, rfl, _, rfl, mo, _, rfl, M4.gOwner, ow, _, rfl, DGet.k (k := ki (t' - 1)) p1, _, rfl, ?_⟩
            cases ho : (valV owner4 (ki (t' - 1))).isSome with
            | true => exact iteF (fin fun n => n.2 ((p3 _).mp ho))
            | false =>
              have no : ¬ Own (dropA zs a) (t' - 1) := fun z => by rw [(p3 _).mpr z] at ho; cases ho
              refine iteT ?_
              refine ⟨fun σ' H'' => ∃ m', m' < t'.toNat ∧ ∃ t' : Int, σ' = [some (.ref mo), some (.ref al), some (.int a), v3] ∧ ModAt H'' mo ow sd N (dropA zs a) t' la ∧ Keep [mo, ow, sd] H H'' ∧ m' = t'.toNat ∧ 1 ≤ t' ∧ t' ≤ t ∧ ∀ w, t' ≤ w → w < t → ¬ Own (dropA zs a) w, fun _ _ h => h, ?_⟩
              refine ⟨_, rfl, mo, _, rfl, M4.gTop, t', 1, rfl, rfl, _, rfl, mo, _, rfl, DPut.k (k := kt "top") M4.m (by show 4 < sizeLine; decide), ?_⟩
              dsimp only
              rw [mkv_put_top]
              refine ⟨(t' - 1).toNat, by omega, t' - 1, rfl, ⟨upd_same, by rw [upd_ne n2.symm]; exact M4.s, ⟨owner4, by rw [upd_ne n1.symm]; exact p1, p2, p3⟩, M4.ne⟩, kp4.trans (Keep.put (by simp)), rfl, by omega, by omega, fun w x y => ?_⟩
              by_cases e : w = t' - 1
              · rw [e]; exact no
              · exact fr w (by omega) y
          · exact fin fun n => hc (decide_eq_true n.1)
        · have hbt : isBump pol = true := by simpa using hb
          exact k sz hla t H3 (fun z => by rw [hbt] at z; cases z) (fun _ => rfl) M3 kp3
end
end OW
/-! The law: _law_as_told. -/
namespace OW
open PySem PySem.Spec PyProof.Rows L2 OO
def spTold (C : Addr) : Sp := fun vs H Q _ => ∃ (p d mo ow sd : Addr) (N : Nat) (pol : Pol) (u : Int) (zs pcs : List (Int × Int)) (t la : Int), vs = [.ref p, .ref mo] ∧ HeapAt C H p d pol u zs pcs t la ∧ ModAt H mo ow sd N zs t la ∧ OO.HOk (isBump pol) zs pcs t ∧
  t ≤ 100000 ∧ zs.length ≤ 1000 ∧ ∀ H', Same H H' → Q (.bl true) H'
theorem blk_at {zs : List (Int × Int)} {ys : List Int} {i : Nat} {b r : Int} (h : (blk zs ys)[i]? = some (b, r)) : r = (look zs b).getD 0 := by
  unfold blk at h
  rw [List.getElem?_map] at h
  cases e : ys[i]? with
  | none => rw [e] at h; cases h
  | some a =>
    rw [e] at h
    have h := Option.some.inj h
    have h1 : a = b := congrArg Prod.fst h
    have h2 : (look zs a).getD 0 = r := congrArg Prod.snd h
    rw [← h2, h1]
theorem HeapAt.same {C : Addr} {H H' : Hp} {p d : Addr} {pol : Pol} {u : Int} {zs pcs : List (Int × Int)} {t la : Int} (h : HeapAt C H p d pol u zs pcs t la) (s : Same H H') : HeapAt C H' p d pol u zs pcs t la :=
  h.keep (ds := []) (Keep.of s) (fun _ m => by cases m) (by simp)
theorem TupAt.same {H H' : Hp} {q : Addr} {xs : List (Int × Int)} (h : TupAt H q xs) (s : Same H H') : TupAt H' q xs := by
  obtain ⟨L, a, b, c⟩ := h
  exact ⟨L, s _ _ a, fun e m => s _ _ (b e m), c⟩
/-- the class's methods as the law calls them -/
structure Ms (P : Program) (w : World) (K : PySem.W.Frag) (mg : Str → Option Value) (base : Heap) (C : Addr) (fI fB fP fT fS fK fG : Addr) (fdI fdB fdP fdT fdS fdK fdG : FuncData) : Prop where
  GI : FnOk P w K mg base CX0 1 fI fdI ["self", "allocator"] (spInit C)
  bI : Binds K fdI ["self", "allocator"] []
  MI : Mk K C fI
  GB : FnOk P w K mg base CX0 1 fB fdB ["self"] (spBlocks C)
  bB : Binds K fdB ["self"] []
  mB : Meth K C "blocks" fB
  GP : FnOk P w K mg base CX0 1 fP fdP ["self"] (spPieces C)
  bP : Binds K fdP ["self"] []
  mP : Meth K C "pieces" fP
  GT : FnOk P w K mg base CX0 1 fT fdT ["self"] (spTop C)
  bT : Binds K fdT ["self"] []
  mT : Meth K C "top" fT
  GS : FnOk P w K mg base CX0 1 fS fdS ["self", "address"] (spSize C)
  bS : Binds K fdS ["self", "address"] []
  mS : Meth K C "size" fS
  GK : FnOk P w K mg base CX0 2 fK fdK ["self", "many"] (spTake C)
  bK : Binds K fdK ["self", "many"] []
  mK : Meth K C "take" fK
  GG : FnOk P w K mg base CX0 1 fG fdG ["self", "address"] (spGive C)
  bG : Binds K fdG ["self", "address"] []
  mG : Meth K C "give" fG
section
variable {P : Program} {w : World} {K : PySem.W.Frag} {mg : Str → Option Value} {base : Heap}
theorem scTold : FnScope ["_law_heap", "_law_m", "_law_blocks", "_law_address", "_law_size"] ["_law_heap", "_law_m"] (defScope sTold) := ⟨rfl, rfl, rfl, by decide +kernel, rfl, by decide +kernel, by decide +kernel⟩
theorem ok_told {f fR C fI fB fP fT fS fK fG : Addr} {fd fdR fdI fdB fdP fdT fdS fdK fdG : FuncData} (F : Fun K "_law_as_told" "_law_as_told" sTold f fd) (T : Txt K mg C) (Z : Ms P w K mg base C fI fB fP fT fS fK fG fdI fdB fdP fdT fdS fdK fdG)
    (GR : FnOk P w K mg base CX0 1 fR fdR ["_law_m"] spRuns) (bR : Binds K fdR ["_law_m"] []) (mR : mg "_law_runs" = some (.ref fR)) (kR : PySem.W.keepIn K (.ref fR) = true) : FnOk P w K mg base CX0 2 f fd ["_law_heap", "_law_m"] (spTold C) := by
  refine F.ok scTold (fun vs H Q E h => ?_) (fun cdv A outer s H vs Q E hr h => ?_)
  · obtain ⟨p, d, mo, ow, sd, N, pol, u, zs, pcs, t, la, rfl, _⟩ := h
    rfl
  · obtain ⟨p, d, mo, ow, sd, N, pol, u, zs, pcs, t, la, rfl, HA, M, ok, tl, hzl, k⟩ := h
    have hu := hu_of hr
    refine ⟨_, pss_cons (ps_set (i := 2) scTold.nd rfl (Or.inl rfl) (pe_callTy call_tuple_of (by rfl) T.tuple (by decide +kernel) (pa_cons
        (pe_lc (own := [("_law_address", 3)]) (g := gName 3) (tt := tYes) rfl scTold.nd (pi_list (pe_callB (call_sortedDA rfl) (by rfl) T.sorted (by decide +kernel) (pa_cons (pe_dget hu (pv 1) pe_str (fun _ _ => rfl)) pa_nil)))
          (blkOk_by (N := ["_law_heap", "_law_m", "_law_blocks", "_law_address", "_law_size"]) (sc := defScope sTold) (by decide +kernel))
          (fun _ _ _ _ _ => pg_name (i := 3) scTold.nd rfl (Or.inl rfl)) (fun _ _ _ _ _ => pts_nil)
          (fun _ _ _ _ _ => pe_tup (pa_cons (pv 3) (pa_cons (pe_dget hu (pe_dget hu (pv 1) pe_str (fun _ _ => rfl)) (pv 3) (fun _ _ => rfl)) pa_nil)))) pa_nil)))
      (pss_cons (ps_if (PW.pt (pw_or (pt_cmpR (op_neD hr.units) (pe_meth0 (pv 0) T.cl Z.mB Z.GB hr Z.bB .nil pass0) (pv 2) (nomark _))
          (pw_or (pt_cmpR (op_neD hr.units) (pe_meth0 (pv 0) T.cl Z.mP Z.GP hr Z.bP .nil pass0) (pe_callTy call_tuple_of (by rfl) T.tuple (by decide +kernel) (pa_cons (pe_call GR hr rfl mR kR bR .nil pass0 (pa_cons (pv 1) pa_nil)) pa_nil)) (nomark _))
          (pw_or1 (pt_cmpR op_ne (pe_meth0 (pv 0) T.cl Z.mT Z.GT hr Z.bT .nil pass0) (pe_dget hu (pv 1) pe_str (fun _ _ => rfl)) (nomark _)))))) (pss_one (ps_ret pe_bl)) pss_nil)
      (pss_one (ps_ret (pe_callB (cr_all rfl) (by rfl) T.all (by decide +kernel) (pa_cons
        (pe_lc (own := [("_law_address", 3), ("_law_size", 4)]) (tt := tYes) (g := gTup K 2 (gCons (gName 3) (gCons (gName 4) gNil))) rfl scTold.nd (pi_tup (pv 2))
          (blkOk_by (N := ["_law_heap", "_law_m", "_law_blocks", "_law_address", "_law_size"]) (sc := defScope sTold) (by decide +kernel))
          (fun _ _ _ _ _ => pg_tup rfl (pgs_cons (pg_name (i := 3) scTold.nd rfl (Or.inl rfl)) (pgs_cons (pg_name (i := 4) scTold.nd rfl (Or.inl rfl)) pgs_nil))) (fun _ _ _ _ _ => pts_nil)
          (fun _ _ _ _ _ => pe_cmpR op_eq (pe_meth (pv 0) T.cl Z.mS Z.GS hr Z.bS .nil pass0 (pa_cons (pv 3) pa_nil)) (pv 4) (nomark _))) pa_nil))))), ?_⟩
    obtain ⟨⟨dx, l, L, h1, h2, h3, h4⟩, h5⟩ := id HA
    have t1 := ok.good.top1
    refine ⟨_, rfl, mo, _, rfl, M.gSizes, sd, kvz zs, zs.map (·.1), rfl, .inl M.s, kvz_keys zs, fun ys q hp hs hq => ?_⟩
    have s1 : Same H (upd H q (.lst (ys.map V.int))) := same_new hq
    refine ⟨q, rfl, ⟨_, SqL.of upd_same⟩, fun D hD => ?_⟩
    have nqD : q ≠ D := ne_of_none upd_same hD
    have hD0 : H D = none := s1.free hD
    have yl : ys.length ≤ 1000 := by rw [hp.length_eq, List.length_map]; exact hzl
    refine lc_list (K := K) (a := q) (xs := ys.map V.int) (fun i H' => Same H H' ∧ H' q = some (.lst (ys.map V.int)) ∧ ∃ L, H' D = some (.lst (refs L)) ∧ PL H' L ∧ prs L = blk zs (ys.take i))
      ⟨fun b o e => ?_, ?_, [], upd_same, fun e m => (by cases m), rfl⟩ (fun i H' _ hh => SqL.of hh.2.1) ?_ ?_
    · rw [upd_ne (ne_of_none e hD0)]; exact s1 _ _ e
    · rw [upd_ne nqD]; exact upd_same
    · rintro i x H' hi ⟨s2, e2, L', e3, p3, m3⟩
      rw [List.getElem?_map] at hi
      cases ey : ys[i]? with
      | none => rw [ey] at hi; cases hi
      | some a =>
        rw [ey] at hi
        have ex : V.int a = x := Option.some.inj hi
        subst ex
        obtain ⟨sz, hsz⟩ := look_key (hp.mem_iff.mp (mem_get ey))
        have M2 := M.same s2
        refine ⟨rfl, _, rfl, _, rfl, mo, _, rfl, M2.gSizes, _, rfl, sd, _, rfl, (by have g := DGet.k (k := ki a) M2.s; rw [kvz_val, hsz] at g; exact g), (by show 2 ≤ sizeLine; decide), fun tt htt => ?_⟩
        have s3 : Same H' (upd H' tt (.tup [.int a, .int sz])) := same_new htt
        refine ⟨refs L', s3 _ _ e3, ?_, ?_⟩
        · have q1 := congrArg List.length m3
          rw [prs_length, blk, List.length_map, List.length_take] at q1
          rw [refs_length]
          exact small1000 (by omega)
        · have nD : D ≠ tt := ne_of_none e3 htt
          refine ⟨fun b o e => ?_, ?_, L' ++ [(tt, a, sz)], ?_, fun e m => ?_, ?_⟩
          · rw [upd_ne (ne_of_none e hD0)]; exact s3 _ _ (s2 _ _ e)
          · rw [upd_ne nqD]; exact s3 _ _ e2
          · rw [upd_same, refs_snoc]
          · have g := PL.snoc (o := .tup []) (a := a) (b := sz) p3 htt e m
            rw [upd_ne]
            · exact g
            · intro z
              rw [z, upd_ne nD, e3] at g
              cases g
          · rw [prs_snoc, m3]
            unfold blk
            rw [tm_step _ ey, hsz]
            rfl
    · rintro H1 ⟨s2, e2, L', e3, p3, m3⟩
      refine ⟨D, _, rfl, .inl ⟨SqL.of e3, fun bl hbl => ?_⟩⟩
      have s3 : Same H1 (upd H1 bl (.tup (refs L'))) := same_new hbl
      have B3 : TupAt (upd H1 bl (.tup (refs L'))) bl (blk zs ys) := ⟨L', upd_same, fun e m => s3 _ _ (p3 e m), by rw [m3, List.length_map, List.take_length]⟩
      have sA : Same H (upd H1 bl (.tup (refs L'))) := s2.trans s3
      generalize upd H1 bl (.tup (refs L')) = H2 at s3 B3 sA ⊢
      -- heap.blocks() != blocks
      refine ⟨_, rfl, p, dx, _, rfl, sA _ _ h1, flds_no (by decide +kernel), p, d, pol, u, zs, pcs, t, la, rfl, HA.same sA, hzl, fun ys' q3 H3 hp' hs' s4 B4 => ?_⟩
      have ey : ys' = ys := keys_unique ok.good.nd hp' hp hs' hs
      subst ey
      have B3' := B3.same s4
      have sB : Same H H3 := sA.trans s4
      refine ⟨_, rfl, _, _, dp_tup B4, dp_tup B3', shp_tP _, shp_tP _, _, rfl, ?_⟩
      rw [eqv_tP]
      refine iteF ?_
      -- heap.pieces() != tuple(_law_runs(m))
      refine ⟨_, rfl, p, dx, _, rfl, sB _ _ h1, flds_no (by decide +kernel), p, d, pol, u, zs, pcs, t, la, rfl, HA.same sB, fun q5 H5 s5 B5 => ?_⟩
      have sC : Same H H5 := sB.trans s5
      refine ⟨_, rfl, mo, ow, sd, N, zs, t, la, rfl, M.same sC, t1, tl, fun q6 H6 L6 s6 hq6 e6 p6 c6 => ?_⟩
      have er : prs L6 = pcs := canon_unique c6 ok.can fun _ => Iff.rfl
      refine ⟨q6, _, rfl, .inl ⟨SqL.of e6, fun q7 hq7 => ?_⟩⟩
      have s7 : Same H6 (upd H6 q7 (.tup (refs L6))) := same_new hq7
      have B7 : TupAt (upd H6 q7 (.tup (refs L6))) q7 pcs := ⟨L6, upd_same, fun e m => s7 _ _ (p6 e m), er⟩
      refine ⟨_, _, dp_tup ((B5.same s6).same s7), dp_tup B7, shp_tP _, shp_tP _, _, rfl, ?_⟩
      rw [eqv_tP]
      refine iteF ?_
      have sD : Same H (upd H6 q7 (.tup (refs L6))) := (sC.trans s6).trans s7
      have B8 := ((B3'.same s5).same s6).same s7
      generalize upd H6 q7 (.tup (refs L6)) = H7 at sD B8 ⊢
      -- heap.top() != m['top']
      refine ⟨_, rfl, p, dx, _, rfl, sD _ _ h1, flds_no (by decide +kernel), p, d, pol, u, zs, pcs, t, la, rfl, HA.same sD, ?_⟩
      refine ⟨_, rfl, mo, _, rfl, (M.same sD).gTop, rfl, _, rfl, ?_⟩
      refine iteNS rfl ?_
      -- all([..])
      obtain ⟨LB, eB, pB, mB⟩ := B8
      refine ⟨.ref bl, rfl, bl, rfl, ⟨_, SqT.of eB⟩, fun D2 hD2 => ?_⟩
      have lB : LB.length ≤ 1000 := by
        rw [← prs_length, mB, blk, List.length_map]
        exact yl
      refine lc_tup (K := K) (a := bl) (xs := refs LB) (fun i H' => Same H7 H' ∧ H' D2 = some (.lst ((List.replicate i true).map V.bl))) ⟨same_new hD2, upd_same⟩ (fun i H' _ hh => SqT.of (hh.1 _ _ eB)) ?_ ?_
      · rintro i x H' hi ⟨s8, e8⟩
        obtain ⟨tt, b, r, eq_, rfl⟩ := refs_get hi
        have et : H' tt = some (.tup [.int b, .int r]) := s8 _ _ (pB _ (mem_get eq_))
        have er2 : r = (look zs b).getD 0 := blk_at (ys := ys') (i := i) (by rw [← mB]; exact get_prs eq_)
        have hiL := get_lt eq_
        refine ⟨tt, _, rfl, SqT.of et, rfl, _, _, rfl, _, _, rfl, rfl, rfl, _, rfl, p, dx, _, rfl, s8 _ _ (sD _ _ h1), flds_no (by decide +kernel), .int b, rfl, p, d, pol, u, zs, pcs, t, la, b, rfl, HA.same (sD.trans s8), ?_⟩
        refine ⟨.int r, rfl, rfl, _, e8, (by rw [List.length_map, List.length_replicate]; exact small1000 (by omega)), fun b' o e => ?_, ?_⟩
        · rw [upd_ne (ne_of_none e hD2)]; exact s8 _ _ e
        · rw [upd_same, dec_int, decide_eq_true er2.symm]
          rw [List.replicate_succ', List.map_append]
          rfl
      · rintro H8 ⟨s8, e8⟩
        refine ⟨D2, _, rfl, SqL.of e8, ?_⟩
        rw [show ((List.replicate (refs LB).length true).all id) = true by rw [List.all_eq_true]; intro x m; rw [List.eq_of_mem_replicate m]; rfl]
        exact k H8 (sD.trans s8)
end
end OW
/-! The law: _law_deed. -/
namespace OW
open PySem PySem.Spec PyProof.Rows L2 OO
/-- all that the law holds -/
structure Wd (C : Addr) (H : Hp) (dr p d mo ow sd al : Addr) (pol : Pol) (u : Int) (N : Nat) (zs pcs : List (Int × Int)) (t la : Int) : Prop where
  D : DrawsAt H dr
  A : H al = some (.tup [.str (ps pol), .int u])
  HA : HeapAt C H p d pol u zs pcs t la
  M : ModAt H mo ow sd N zs t la
  ok : OO.HOk (isBump pol) zs pcs t
  u4 : U4 u
  ne : (dr ≠ d ∧ dr ≠ mo ∧ dr ≠ ow ∧ dr ≠ sd) ∧ (d ≠ mo ∧ d ≠ ow ∧ d ≠ sd)
section
variable {C : Addr} {H H' : Hp} {dr p d mo ow sd al : Addr} {pol : Pol} {u : Int} {N : Nat} {zs pcs : List (Int × Int)} {t la : Int}
theorem DrawsAt.dk (h : DrawsAt H dr) : ∃ kvs, H dr = some (.dK kvs) := by
  obtain ⟨rw, ms, a, seed, h1, _⟩ := h.at_
  exact ⟨_, h1⟩
theorem ModAt.dks (M : ModAt H mo ow sd N zs t la) : ∀ x ∈ [mo, ow, sd], ∃ kvs, H x = some (.dK kvs) := by
  obtain ⟨owner, o1, _⟩ := M.o
  intro x m
  simp only [List.mem_cons, List.not_mem_nil, or_false] at m
  rcases m with rfl | rfl | rfl
  · exact ⟨_, M.m⟩
  · exact ⟨_, o1⟩
  · exact ⟨_, M.s⟩
theorem not_of_dk {x : Addr} {ds : List Addr} {o : HO} (h : H x = some o) (hd : ∀ y ∈ ds, ∃ kvs, H y = some (.dK kvs)) (n : ∀ kvs, o ≠ .dK kvs) : x ∉ ds := fun m => by
  obtain ⟨kvs, q⟩ := hd x m
  rw [h] at q
  exact n kvs (Option.some.inj q)
/-- behind a draw -/
theorem Wd.draw (W : Wd C H dr p d mo ow sd al pol u N zs pcs t la) (D' : DrawsAt H' dr) (k : Keep [dr] H H') : Wd C H' dr p d mo ow sd al pol u N zs pcs t la := by
  obtain ⟨kvs, hd⟩ := W.D.dk
  have hds : ∀ y ∈ [dr], ∃ kvs, H y = some (.dK kvs) := fun y m => by rw [List.mem_singleton.mp m]; exact ⟨_, hd⟩
  obtain ⟨⟨a1, a2, a3, a4⟩, a5⟩ := W.ne
  exact ⟨D', k _ _ W.A (not_of_dk W.A hds (fun _ z => by cases z)), W.HA.keep k hds (by simp [a1.symm]), W.M.keep k (by simp [a2.symm]) (by simp [a3.symm]) (by simp [a4.symm]), W.ok, W.u4, W.ne⟩
theorem Wd.same (W : Wd C H dr p d mo ow sd al pol u N zs pcs t la) (s : Same H H') : Wd C H' dr p d mo ow sd al pol u N zs pcs t la :=
  ⟨W.D.keep (ds := []) (Keep.of s) (by simp) (fun _ m => by cases m), s _ _ W.A, W.HA.same s, W.M.same s, W.ok, W.u4, W.ne⟩
theorem Wd.obj (W : Wd C H dr p d mo ow sd al pol u N zs pcs t la) : ∃ dx l, H p = some (.ins C dx (flds pol u d l t la)) := by
  obtain ⟨⟨dx, l, L, h1, _⟩, _⟩ := W.HA
  exact ⟨dx, l, h1⟩
/-- what stands beside a heap that changed -/
theorem Wd.heap (W : Wd C H dr p d mo ow sd al pol u N zs pcs t la) (k : Keep [p, d] H H') : DrawsAt H' dr ∧ H' al = some (.tup [.str (ps pol), .int u]) ∧ ModAt H' mo ow sd N zs t la := by
  obtain ⟨⟨dx, l, L, h1, _⟩, h5⟩ := W.HA
  obtain ⟨⟨a1, a2, a3, a4⟩, a5, a6, a7⟩ := W.ne
  obtain ⟨kd, hd⟩ := W.D.dk
  obtain ⟨owner, o1, _⟩ := W.M.o
  have b0 : dr ≠ p := ne_of hd h1 (by intro z; cases z)
  have b1 : mo ≠ p := ne_of W.M.m h1 (by intro z; cases z)
  have b2 : ow ≠ p := ne_of o1 h1 (by intro z; cases z)
  have b3 : sd ≠ p := ne_of W.M.s h1 (by intro z; cases z)
  have b4 : al ≠ p := ne_of W.A h1 (by intro z; cases z)
  have b5 : al ≠ d := ne_of W.A h5 (by intro z; cases z)
  refine ⟨W.D.keep k (by simp [b0, a1]) (fun x m xs z => ?_), k _ _ W.A (by simp [b4, b5]), W.M.keep k (by simp [b1, a5.symm]) (by simp [b2, a6.symm]) (by simp [b3, a7.symm])⟩
  simp only [List.mem_cons, List.not_mem_nil, or_false] at m
  rcases m with rfl | rfl
  · rw [h1] at z; cases z
  · rw [h5] at z; cases z
/-- what stands beside a model that changed -/
theorem beside_model {zs' pcs' : List (Int × Int)} {t' la' : Int} (D : DrawsAt H dr) (A : H al = some (.tup [.str (ps pol), .int u])) (HA : HeapAt C H p d pol u zs' pcs' t' la') (M : ModAt H mo ow sd N zs t la)
    (ne : (dr ≠ d ∧ dr ≠ mo ∧ dr ≠ ow ∧ dr ≠ sd) ∧ (d ≠ mo ∧ d ≠ ow ∧ d ≠ sd)) (k : Keep [mo, ow, sd] H H') : DrawsAt H' dr ∧ H' al = some (.tup [.str (ps pol), .int u]) ∧ HeapAt C H' p d pol u zs' pcs' t' la' := by
  obtain ⟨⟨a1, a2, a3, a4⟩, a5, a6, a7⟩ := ne
  refine ⟨D.keep k (by simp [a2, a3, a4]) (fun x m xs z => ?_), k _ _ A (not_of_dk A M.dks (fun _ z => by cases z)), HA.keep k M.dks (by simp [a5, a6, a7])⟩
  obtain ⟨kvs, q⟩ := M.dks x m
  rw [z] at q
  cases q
theorem ModAt.mono {N' : Nat} (M : ModAt H mo ow sd N zs t la) (h : N ≤ N') : ModAt H mo ow sd N' zs t la := by
  obtain ⟨owner, o1, o2, o3⟩ := M.o
  exact ⟨M.m, M.s, ⟨owner, o1, Nat.le_trans o2 h, o3⟩, M.ne⟩
end
/-- the two takes agree -/
theorem takes_agree {pol : Pol} {la z t : Int} {zs pcs rs : List (Int × Int)} {o o' : Option (Int × Int)} {bump : Bool} (ok : OO.HOk bump zs pcs t) (h : Picked pol la z pcs o) (c : Canon (Own zs) t rs) (h' : Picked pol la z rs o') : addr o' t = addr o t := by
  have e : rs = pcs := canon_unique c ok.can fun _ => Iff.rfl
  rw [e] at h'
  have q := picked_unique h' h
  cases o with
  | none =>
    cases o' with
    | none => rfl
    | some p => cases q
  | some p =>
    cases o' with
    | none => cases q
    | some p' => exact Option.some.inj q
theorem dropA_len (zs : List (Int × Int)) (a : Int) : (dropA zs a).length ≤ zs.length := List.length_filter_le _ _
theorem spGive_mono {C : Addr} {vs : List V} {H : Hp} {Q Q' : VK} {E E' : XK} (h : spGive C vs H Q E) (m : ∀ v H, Q v H → Q' v H) : spGive C vs H Q' E' := by
  obtain ⟨p, d, pol, u, zs, pcs, t, la, a, rfl, h1, h2, h3, h4, h5⟩ := h
  exact ⟨p, d, pol, u, zs, pcs, t, la, a, rfl, h1, h2, h3, fun q => m _ _ (h4 q), fun s hs pcs' t' H' x1 x2 x3 x4 x5 x6 => m _ _ (h5 s hs pcs' t' H' x1 x2 x3 x4 x5 x6)⟩
theorem spLGive_mono {vs : List V} {H : Hp} {Q Q' : VK} {E E' : XK} (h : spLGive vs H Q E) (m : ∀ v H, Q v H → Q' v H) : spLGive vs H Q' E' := by
  obtain ⟨mo, al, ow, sd, N, zs, t, la, u, a, pol, rfl, h1, h2, h3, h4, h5, h6⟩ := h
  exact ⟨mo, al, ow, sd, N, zs, t, la, u, a, pol, rfl, h1, h2, h3, h4, fun q => m _ _ (h5 q), fun s hs t' H' x1 x2 x3 x4 => m _ _ (h6 s hs t' H' x1 x2 x3 x4)⟩
theorem spTake_mono {C : Addr} {vs : List V} {H : Hp} {Q Q' : VK} {E E' : XK} (h : spTake C vs H Q E) (m : ∀ v H, Q v H → Q' v H) : spTake C vs H Q' E' := by
  obtain ⟨p, d, pol, u, zs, pcs, t, la, many, rfl, h1, h2, h3, h4, h5, h6, h7, h8⟩ := h
  exact ⟨p, d, pol, u, zs, pcs, t, la, many, rfl, h1, h2, h3, h4, h5, h6, h7, fun o pcs' H' x1 x2 x3 x4 => m _ _ (h8 o pcs' H' x1 x2 x3 x4)⟩
theorem spLTake_mono {vs : List V} {H : Hp} {Q Q' : VK} {E E' : XK} (h : spLTake vs H Q E) (m : ∀ v H, Q v H → Q' v H) : spLTake vs H Q' E' := by
  obtain ⟨mo, al, ow, sd, N, zs, t, la, u, many, pol, rfl, h1, h2, h3, h4, h5, h6, h7, h8, h9, h10⟩ := h
  exact ⟨mo, al, ow, sd, N, zs, t, la, u, many, pol, rfl, h1, h2, h3, h4, h5, h6, h7, h8, h9, fun o rs H' x1 x2 x3 x4 => m _ _ (h10 o rs H' x1 x2 x3 x4)⟩
abbrev six (dr p d mo ow sd : Addr) : List Addr := [dr, p, d, mo, ow, sd]
section
variable {C : Addr} {H : Hp} {dr p d mo ow sd al : Addr} {pol : Pol} {u : Int} {N : Nat} {zs pcs : List (Int × Int)} {t la : Int} {E E' : XK}
/-- give on both sides -/
theorem give_end {R : Bool → Hp → Prop} {a : Int} (W : Wd C H dr p d mo ow sd al pol u N zs pcs t la) (tl : t ≤ 100000) (hno : look zs a = none → R false H)
    (hyes : ∀ s, look zs a = some s → ∀ pcs' t' H', Wd C H' dr p d mo ow sd al pol u N (dropA zs a) pcs' t' la → t' ≤ t → Keep (six dr p d mo ow sd) H H' → R true H') :
    spGive C [.ref p, .int a] H (fun x H1 => ∃ b, x = .bl b ∧ b = (look zs a).isSome ∧ spLGive [.ref mo, .ref al, .int a] H1 (fun y H2 => y = .bl b ∧ R b H2) E) E' := by
  refine ⟨p, d, pol, u, zs, pcs, t, la, a, rfl, W.HA, W.ok, tl, fun hla => ?_, fun s hla pcs' t' H1 hk hT hB hle HA1 k1 => ?_⟩
  · exact ⟨false, rfl, by rw [hla]; rfl, mo, al, ow, sd, N, zs, t, la, u, a, pol, rfl, W.A, W.M, W.ok.good, tl, fun _ => ⟨rfl, hno hla⟩, fun s hs => by rw [hla] at hs; cases hs⟩
  · obtain ⟨D1, A1, M1⟩ := W.heap k1
    refine ⟨true, rfl, by rw [hla]; rfl, mo, al, ow, sd, N, zs, t, la, u, a, pol, rfl, A1, M1, W.ok.good, tl, fun hs => (by rw [hla] at hs; cases hs), fun s' hs' t'' H2 hT' hB' M2 k2 => ⟨rfl, ?_⟩⟩
    have et : t'' = t' := by
      cases hb : isBump pol with
      | false => exact topAt_unique (fun _ => Iff.rfl) (hT' hb) (hT hb)
      | true => rw [hB' hb, hB hb]
    subst et
    obtain ⟨D2, A2, HA2⟩ := beside_model D1 A1 HA1 M1 W.ne k2
    exact hyes s hla pcs' t'' H2 ⟨D2, A2, HA2, M2, hk, W.u4, W.ne⟩ hle ((k1.mono (by simp)).trans (k2.mono (by simp)))
theorem take_end {R : Hp → Prop} {many : Int} (W : Wd C H dr p d mo ow sd al pol u N zs pcs t la) (tl : t ≤ 100000) (hN : N ≤ 100000) (hzl : zs.length ≤ 1000) (m0 : 0 ≤ many) (m1 : many ≤ 40)
    (hyes : ∀ a s pcs' t' la' H', Wd C H' dr p d mo ow sd al pol u (N + 48) (zs ++ [(a, s)]) pcs' t' la' → t' ≤ t + 48 → Keep (six dr p d mo ow sd) H H' → R H') :
    spTake C [.ref p, .int many] H (fun x H1 => ∃ a, x = .int a ∧ spLTake [.ref mo, .ref al, .int many] H1 (fun y H2 => y = .int a ∧ R H2) E) E' := by
  refine ⟨p, d, pol, u, zs, pcs, t, la, many, rfl, W.HA, W.ok, W.u4, m0, m1, hzl, tl, fun o pcs' H1 pk hk HA1 k1 => ?_⟩
  obtain ⟨D1, A1, M1⟩ := W.heap k1
  refine ⟨addr o t, rfl, mo, al, ow, sd, N, zs, t, la, u, many, pol, rfl, A1, M1, W.ok.good, tl, hN, hzl, W.u4, m0, m1, fun o' rs H2 cn pk' M2 k2 => ?_⟩
  have ea := takes_agree W.ok pk cn pk'
  rw [ea] at M2 ⊢
  obtain ⟨D2, A2, HA2⟩ := beside_model D1 A1 HA1 M1 W.ne k2
  have hz : 1 ≤ sizeOf_ many u ∧ sizeOf_ many u ≤ 48 := size_le W.u4 m0 m1
  have hpos := addr_pos W.ok.good W.ok.can pk
  refine ⟨rfl, hyes _ _ pcs' _ _ H2 ⟨D2, A2, HA2, M2, hk, W.u4, W.ne⟩ ?_ ((k1.mono (by simp)).trans (k2.mono (by simp)))⟩
  unfold topOf
  split <;> omega
end
def spDeed (C : Addr) : Sp := fun vs H Q _ => ∃ (dr p d mo ow sd al : Addr) (pol : Pol) (u : Int) (n : Nat) (zs pcs : List (Int × Int)) (t la : Int), vs = [.ref dr, .ref p, .ref mo, .ref al] ∧ Wd C H dr p d mo ow sd al pol u (48 * n) zs pcs t la ∧
  zs.length ≤ n ∧ t ≤ 1 + 48 * (n : Int) ∧ n ≤ 100 ∧
  ∀ (zs' pcs' : List (Int × Int)) (t' la' : Int) (H' : Hp), Wd C H' dr p d mo ow sd al pol u (48 * (n + 1)) zs' pcs' t' la' → zs'.length ≤ n + 1 → t' ≤ 1 + 48 * ((n + 1 : Nat) : Int) → Keep (six dr p d mo ow sd) H H' → Q (.bl true) H'
section
variable {P : Program} {w : World} {K : PySem.W.Frag} {mg : Str → Option Value} {base : Heap}
theorem scDeed : FnScope ["_law_draws_here", "_law_heap", "_law_m", "_law_allocator", "_law_held", "_law_pick", "_law_many", "_law_address"] ["_law_draws_here", "_law_heap", "_law_m", "_law_allocator"] (defScope sDeed) := ⟨rfl, rfl, rfl, by decide +kernel, rfl, by decide +kernel, by decide +kernel⟩
theorem ok_deed {f fN fLT fLG C fI fB fP fT fS fK fG : Addr} {fd fdN fdLT fdLG fdI fdB fdP fdT fdS fdK fdG : FuncData} (F : Fun K "_law_deed" "_law_deed" sDeed f fd) (T : Txt K mg C) (Z : Ms P w K mg base C fI fB fP fT fS fK fG fdI fdB fdP fdT fdS fdK fdG)
    (GN : FnOk P w K mg base CX0 1 fN fdN ["_law_draws_here", "_law_many"] spNext) (bN : Binds K fdN ["_law_draws_here", "_law_many"] []) (mN : mg "_law_next" = some (.ref fN)) (kN : PySem.W.keepIn K (.ref fN) = true)
    (GLT : FnOk P w K mg base CX0 4 fLT fdLT ["_law_m", "_law_allocator", "_law_many"] spLTake) (bLT : Binds K fdLT ["_law_m", "_law_allocator", "_law_many"] []) (mLT : mg "_law_take" = some (.ref fLT)) (kLT : PySem.W.keepIn K (.ref fLT) = true)
    (GLG : FnOk P w K mg base CX0 1 fLG fdLG ["_law_m", "_law_allocator", "_law_address"] spLGive) (bLG : Binds K fdLG ["_law_m", "_law_allocator", "_law_address"] []) (mLG : mg "_law_give" = some (.ref fLG)) (kLG : PySem.W.keepIn K (.ref fLG) = true) :
    FnOk P w K mg base CX0 5 f fd ["_law_draws_here", "_law_heap", "_law_m", "_law_allocator"] (spDeed C) := by
  refine F.ok scDeed (fun vs H Q E h => ?_) (fun cdv A outer s H vs Q E hr h => ?_)
  · obtain ⟨dr, p, d, mo, ow, sd, al, pol, u, n, zs, pcs, t, la, rfl, _⟩ := h
    rfl
  · obtain ⟨dr, p, d, mo, ow, sd, al, pol, u, n, zs, pcs, t, la, rfl, W, hzl, htl, hn, k⟩ := h
    have hu := hu_of hr
    have hr1 : Room 1 _ := hr.mono (by decide)
    have hr2 : Room 2 _ := hr.mono (by decide)
    refine ⟨_, pss_cons (ps_set (i := 4) scDeed.nd rfl (Or.inl rfl) (pe_callB (call_sortedDA rfl) (by rfl) T.sorted (by decide +kernel) (pa_cons (pe_dget hu (pv 2) pe_str (fun _ _ => rfl)) pa_nil)))
      (pss_cons (ps_set (i := 5) scDeed.nd rfl (Or.inl rfl) (pe_call GN hr1 rfl mN kN bN .nil pass0 (pa_cons (pv 0) (pa_cons pe_int pa_nil))))
      (pss_cons (ps_if (PW.pt (pw_or (pt_cmpR op_lt (pv 5) pe_int (nomark _)) (pw_or1 (pt_cmpR (op_eqD hr.units) (pv 4) (pe_lst pa_nil) (nomark _)))))
        (pss_cons (ps_set (i := 6) scDeed.nd rfl (Or.inl rfl) (pe_ix ix_list (pe_lst (pa_cons (pe_call GN hr1 rfl mN kN bN .nil pass0 (pa_cons (pv 0) (pa_cons pe_int pa_nil))) (pa_cons (pe_call GN hr1 rfl mN kN bN .nil pass0 (pa_cons (pv 0) (pa_cons pe_int pa_nil))) (pa_cons (pe_call GN hr1 rfl mN kN bN .nil pass0 (pa_cons (pv 0) (pa_cons pe_int pa_nil))) pa_nil))))
            (pe_call GN hr1 rfl mN kN bN .nil pass0 (pa_cons (pv 0) (pa_cons pe_int pa_nil))) (fun _ _ => rfl)))
        (pss_one (ps_ret (pe_cmpR op_eq (pe_meth (pv 1) T.cl Z.mK Z.GK hr2 Z.bK .nil pass0 (pa_cons (pv 6) pa_nil)) (pe_call GLT hr rfl mLT kLT bLT .nil pass0 (pa_cons (pv 2) (pa_cons (pv 3) (pa_cons (pv 6) pa_nil)))) (nomark _))))) pss_nil)
      (pss_cons (ps_set (i := 7) scDeed.nd rfl (Or.inl rfl) (pe_ix ix_list (pv 4) (pe_call GN hr1 rfl mN kN bN .nil pass0 (pa_cons (pv 0) (pa_cons (pe_callB call_len_seq (by rfl) T.len PySem.boot_len (pa_cons (pv 4) pa_nil)) pa_nil))) (fun _ _ => rfl)))
      (pss_cons (ps_if (pt_cmpR op_eq (pv 5) pe_int (nomark _)) (pss_one (ps_set (i := 7) scDeed.nd rfl (Or.inl rfl) (pe_op op_add (pe_op op_add (pv 7) pe_int) (pe_call GN hr1 rfl mN kN bN .nil pass0 (pa_cons (pv 0) (pa_cons pe_int pa_nil)))))) pss_nil)
      (pss_one (ps_ret (pe_cmpR op_eq (pe_meth (pv 1) T.cl Z.mG Z.GG hr1 Z.bG .nil pass0 (pa_cons (pv 7) pa_nil)) (pe_call GLG hr1 rfl mLG kLG bLG .nil pass0 (pa_cons (pv 2) (pa_cons (pv 3) (pa_cons (pv 7) pa_nil)))) (nomark _)))))))), ?_⟩
    refine ⟨_, rfl, mo, _, rfl, W.M.gSizes, sd, kvz zs, zs.map (·.1), rfl, .inl W.M.s, kvz_keys zs, fun ys q hp hs hq => ?_⟩
    have W1 := W.same (same_new (o := .lst (ys.map V.int)) hq)
    have K1 : Keep (six dr p d mo ow sd) H (upd H q (.lst (ys.map V.int))) := Keep.new hq
    have e1 : (upd H q (.lst (ys.map V.int))) q = some (.lst (ys.map V.int)) := upd_same
    generalize upd H q (.lst (ys.map V.int)) = H1 at W1 K1 e1 ⊢
    refine ⟨_, rfl, dr, 10, rfl, W1.D, by decide, fun v H2 v0 v1 D2 k2 => ?_⟩
    obtain ⟨kvd, hdd⟩ := W1.D.dk
    have e2 := k2 _ _ e1 (by have := ne_of e1 hdd (by intro z; cases z); simp [this])
    have W2 := W1.draw D2 k2
    have K2 : Keep (six dr p d mo ow sd) H H2 := K1.trans (k2.mono (by simp))
    refine ⟨.int v, rfl, _, _, rfl, rfl, _, rfl, ?_⟩
    refine ite2 (fun hc => ?_) (fun hc => ?_)
    · refine iteT ?_
      have W3 := W2
      have K3 := K2
      obtain ⟨dx, l, hp_⟩ := W3.obj
      refine ⟨_, rfl, dr, 4, rfl, W3.D, by decide, fun v1 H4 a0 a1 D4 k4 => ?_⟩
      have W4 := W3.draw D4 k4
      refine ⟨_, rfl, dr, 12, rfl, W4.D, by decide, fun v2 H5 b0 b1 D5 k5 => ?_⟩
      have W5 := W4.draw D5 k5
      refine ⟨_, rfl, dr, 41, rfl, W5.D, by decide, fun v3 H6 c0 c1 D6 k6 => ?_⟩
      have W6 := W5.draw D6 k6
      refine ⟨(by show 3 ≤ sizeLine; decide), fun ll hll => ?_⟩
      have W7 := W6.same (same_new (o := .lst [.int v1, .int v2, .int v3]) hll)
      have K7 : Keep (six dr p d mo ow sd) H (upd H6 ll (.lst [.int v1, .int v2, .int v3])) := (((K3.trans (k4.mono (by simp))).trans (k5.mono (by simp))).trans (k6.mono (by simp))).trans (Keep.new hll)
      have e7 : (upd H6 ll (.lst [.int v1, .int v2, .int v3])) ll = some (.lst [.int v1, .int v2, .int v3]) := upd_same
      generalize upd H6 ll (.lst [.int v1, .int v2, .int v3]) = H7 at W7 K7 e7 ⊢
      refine ⟨_, rfl, dr, 3, rfl, W7.D, by decide, fun v4 H8 d0 d1 D8 k8 => ?_⟩
      obtain ⟨kvd, hdd⟩ := W7.D.dk
      have e8 := k8 _ _ e7 (by have := ne_of e7 hdd (by intro z; cases z); simp [this])
      have W8 := W7.draw D8 k8
      have K8 : Keep (six dr p d mo ow sd) H H8 := K7.trans (k8.mono (by simp))
      obtain ⟨mv, hat, m0, m1⟩ : ∃ mv, atI [V.int v1, V.int v2, V.int v3] v4 = some (.int mv) ∧ 0 ≤ mv ∧ mv ≤ 40 := by
        have : v4 = 0 ∨ v4 = 1 ∨ v4 = 2 := by omega
        rcases this with rfl | rfl | rfl
        · exact ⟨v1, rfl, a0, by omega⟩
        · exact ⟨v2, rfl, b0, by omega⟩
        · exact ⟨v3, rfl, c0, by omega⟩
      refine ⟨ll, _, v4, _, rfl, rfl, SqL.of e8, hat, ?_⟩
      obtain ⟨dx8, l8, hp8⟩ := W8.obj
      refine ⟨_, rfl, p, dx8, _, rfl, hp8, flds_no (by decide +kernel), .int mv, rfl, ?_⟩
      dsimp only [tNil, List.append_nil]
      refine spTake_mono (E := E0) (take_end (R := Q (.bl true)) (E := E0) W8 (by omega) (by omega) (by omega) m0 m1 (fun a s' pcs' t' la' H9 W9 ht9 K9 => k _ _ _ _ _ W9 (by rw [List.length_append]; exact Nat.succ_le_succ hzl) (by omega) (K8.trans K9))) ?_
      rintro x H9 ⟨a, rfl, h9⟩
      refine ⟨_, rfl, _, rfl, .int mv, rfl, ?_⟩
      dsimp only [tNil, List.append_nil]
      refine spLTake_mono (E := E0) h9 ?_
      rintro y H10 ⟨rfl, h10⟩
      refine ⟨rfl, ?_⟩
      rw [decide_eq_true (show V.int a = V.int a from rfl)]
      exact h10
    · refine ⟨.ref q, rfl, Nat.zero_le _, fun z hz => ?_⟩
      have sz : Same H2 (upd H2 z (.lst [])) := same_new hz
      refine ⟨.list (dI ys), .list (dI []), dp_ints (sz _ _ e2), dp_ints (ns := []) upd_same, shp_lI _, shp_lI _, _, rfl, ?_⟩
      rw [eqv_lI]
      have W3 := W2.same sz
      have K3 : Keep (six dr p d mo ow sd) H (upd H2 z (.lst [])) := K2.trans (Keep.of sz)
      have e3 := sz _ _ e2
      generalize upd H2 z (.lst []) = H3 at W3 K3 e3 ⊢
      refine ite2 (fun hc => ?_) (fun hc => ?_)
      · skip
        obtain ⟨dx, l, hp_⟩ := W3.obj
        refine ⟨_, rfl, dr, 4, rfl, W3.D, by decide, fun v1 H4 a0 a1 D4 k4 => ?_⟩
        have W4 := W3.draw D4 k4
        refine ⟨_, rfl, dr, 12, rfl, W4.D, by decide, fun v2 H5 b0 b1 D5 k5 => ?_⟩
        have W5 := W4.draw D5 k5
        refine ⟨_, rfl, dr, 41, rfl, W5.D, by decide, fun v3 H6 c0 c1 D6 k6 => ?_⟩
        have W6 := W5.draw D6 k6
        refine ⟨(by show 3 ≤ sizeLine; decide), fun ll hll => ?_⟩
        have W7 := W6.same (same_new (o := .lst [.int v1, .int v2, .int v3]) hll)
        have K7 : Keep (six dr p d mo ow sd) H (upd H6 ll (.lst [.int v1, .int v2, .int v3])) := (((K3.trans (k4.mono (by simp))).trans (k5.mono (by simp))).trans (k6.mono (by simp))).trans (Keep.new hll)
        have e7 : (upd H6 ll (.lst [.int v1, .int v2, .int v3])) ll = some (.lst [.int v1, .int v2, .int v3]) := upd_same
        generalize upd H6 ll (.lst [.int v1, .int v2, .int v3]) = H7 at W7 K7 e7 ⊢
        refine ⟨_, rfl, dr, 3, rfl, W7.D, by decide, fun v4 H8 d0 d1 D8 k8 => ?_⟩
        obtain ⟨kvd, hdd⟩ := W7.D.dk
        have e8 := k8 _ _ e7 (by have := ne_of e7 hdd (by intro z; cases z); simp [this])
        have W8 := W7.draw D8 k8
        have K8 : Keep (six dr p d mo ow sd) H H8 := K7.trans (k8.mono (by simp))
        obtain ⟨mv, hat, m0, m1⟩ : ∃ mv, atI [V.int v1, V.int v2, V.int v3] v4 = some (.int mv) ∧ 0 ≤ mv ∧ mv ≤ 40 := by
          have : v4 = 0 ∨ v4 = 1 ∨ v4 = 2 := by omega
          rcases this with rfl | rfl | rfl
          · exact ⟨v1, rfl, a0, by omega⟩
          · exact ⟨v2, rfl, b0, by omega⟩
          · exact ⟨v3, rfl, c0, by omega⟩
        refine ⟨ll, _, v4, _, rfl, rfl, SqL.of e8, hat, ?_⟩
        obtain ⟨dx8, l8, hp8⟩ := W8.obj
        refine ⟨_, rfl, p, dx8, _, rfl, hp8, flds_no (by decide +kernel), .int mv, rfl, ?_⟩
        dsimp only [tNil, List.append_nil]
        refine spTake_mono (E := E0) (take_end (R := Q (.bl true)) (E := E0) W8 (by omega) (by omega) (by omega) m0 m1 (fun a s' pcs' t' la' H9 W9 ht9 K9 => k _ _ _ _ _ W9 (by rw [List.length_append]; exact Nat.succ_le_succ hzl) (by omega) (K8.trans K9))) ?_
        rintro x H9 ⟨a, rfl, h9⟩
        refine ⟨_, rfl, _, rfl, .int mv, rfl, ?_⟩
        dsimp only [tNil, List.append_nil]
        refine spLTake_mono (E := E0) h9 ?_
        rintro y H10 ⟨rfl, h10⟩
        refine ⟨rfl, ?_⟩
        rw [decide_eq_true (show V.int a = V.int a from rfl)]
        exact h10
      · have ylen : 0 < ys.length := by
          cases ys with
          | nil => exact absurd rfl hc
          | cons y r => exact Nat.succ_pos _
        refine ⟨.ref q, rfl, _, rfl, .ref q, rfl, q, _, rfl, .inl (SqL.of e3), dr, _, rfl, W3.D, (by rw [List.length_map]; omega), fun v' H4 w0 w1 D4 k4 => ?_⟩
        rw [List.length_map] at w1
        obtain ⟨kvd3, hdd3⟩ := W3.D.dk
        have e4 := k4 _ _ e3 (by have := ne_of e3 hdd3 (by intro z; cases z); simp [this])
        have W4 := W3.draw D4 k4
        have K4 : Keep (six dr p d mo ow sd) H H4 := K3.trans (k4.mono (by simp))
        obtain ⟨a, ea⟩ := int_get (ns := ys) (i := v'.toNat) (by omega)
        refine ⟨q, _, v', .int a, rfl, rfl, SqL.of e4, at_of (by omega) ea, ?_⟩
        refine ⟨.int v, rfl, rfl, _, rfl, ?_⟩
        refine ite2 (fun hc => ?_) (fun hc => ?_)
        · refine ⟨.int a, rfl, a, 1, rfl, rfl, _, rfl, dr, 9, rfl, W4.D, by decide, fun v5 H5 x0 x1 D5 k5 => ?_⟩
          have W5 := W4.draw D5 k5
          have K5 : Keep (six dr p d mo ow sd) H H5 := K4.trans (k5.mono (by simp))
          refine ⟨a + 1, v5, rfl, rfl, ?_⟩
          obtain ⟨dx8, l8, hp8⟩ := W5.obj
          refine ⟨_, rfl, p, dx8, _, rfl, hp8, flds_no (by decide +kernel), .int (a + 1 + v5), rfl, ?_⟩
          dsimp only [tNil, List.append_nil]
          refine spGive_mono (E := E0) (give_end (R := fun _ => Q (.bl true)) (E := E0) W5 (by omega) (fun _ => k _ _ _ _ _ ⟨W5.D, W5.A, W5.HA, W5.M.mono (by omega), W5.ok, W5.u4, W5.ne⟩ (by omega) (by omega) K5)
            (fun s' _ pcs' t' H9 W9 ht9 K9 => k _ _ _ _ _ ⟨W9.D, W9.A, W9.HA, W9.M.mono (by omega), W9.ok, W9.u4, W9.ne⟩ (Nat.le_trans (dropA_len _ _) (by omega)) (by omega) (K5.trans K9))) ?_
          rintro x H9 ⟨b, rfl, _, h9⟩
          refine ⟨_, rfl, _, rfl, .int (a + 1 + v5), rfl, ?_⟩
          dsimp only [tNil, List.append_nil]
          refine spLGive_mono (E := E0) h9 ?_
          rintro y H10 ⟨rfl, h10⟩
          refine ⟨rfl, ?_⟩
          rw [decide_eq_true (show V.bl b = V.bl b from rfl)]
          exact h10
        · have W5 := W4
          have K5 := K4
          obtain ⟨dx8, l8, hp8⟩ := W5.obj
          refine ⟨_, rfl, p, dx8, _, rfl, hp8, flds_no (by decide +kernel), .int a, rfl, ?_⟩
          dsimp only [tNil, List.append_nil]
          refine spGive_mono (E := E0) (give_end (R := fun _ => Q (.bl true)) (E := E0) W5 (by omega) (fun _ => k _ _ _ _ _ ⟨W5.D, W5.A, W5.HA, W5.M.mono (by omega), W5.ok, W5.u4, W5.ne⟩ (by omega) (by omega) K5)
            (fun s' _ pcs' t' H9 W9 ht9 K9 => k _ _ _ _ _ ⟨W9.D, W9.A, W9.HA, W9.M.mono (by omega), W9.ok, W9.u4, W9.ne⟩ (Nat.le_trans (dropA_len _ _) (by omega)) (by omega) (K5.trans K9))) ?_
          rintro x H9 ⟨b, rfl, _, h9⟩
          refine ⟨_, rfl, _, rfl, .int a, rfl, ?_⟩
          dsimp only [tNil, List.append_nil]
          refine spLGive_mono (E := E0) h9 ?_
          rintro y H10 ⟨rfl, h10⟩
          refine ⟨rfl, ?_⟩
          rw [decide_eq_true (show V.bl b = V.bl b from rfl)]
          exact h10
end
end OW
/-! The law itself. -/
namespace OW
open PySem PySem.Spec PyProof.Rows L2 OO
def spLaw (K : PySem.W.Frag) : Sp := fun vs H Q _ => ∃ (a : Addr) (ns : List Int), vs = [.ref a] ∧ SqL K H a (ns.map V.int) ∧ ns.length ≤ 63 ∧ ∀ H', Q (.bl true) H'
section
variable {C : Addr} {H H' : Hp} {dr p d mo ow sd al p2 d2 : Addr} {pol : Pol} {u : Int} {N : Nat} {zs pcs : List (Int × Int)} {t la : Int}
/-- the second heap stands beside -/
structure Oth (C : Addr) (H : Hp) (p2 d2 : Addr) (pol : Pol) (u : Int) (dr p d mo ow sd : Addr) : Prop where
  HA : HeapAt C H p2 d2 pol u [] [] 1 1
  ne : p2 ≠ p ∧ d2 ≠ dr ∧ d2 ≠ d ∧ d2 ≠ mo ∧ d2 ≠ ow ∧ d2 ≠ sd
theorem Oth.keep (O : Oth C H p2 d2 pol u dr p d mo ow sd) (W : Wd C H dr p d mo ow sd al pol u N zs pcs t la) (k : Keep (six dr p d mo ow sd) H H') : Oth C H' p2 d2 pol u dr p d mo ow sd := by
  obtain ⟨⟨⟨dx, l, L, h1, h2, h3, h4⟩, h5⟩, n0, n1, n2, n3, n4, n5⟩ := O
  obtain ⟨dx', l', hp⟩ := W.obj
  obtain ⟨kd, hd⟩ := W.D.dk
  have hdd := W.HA.dc
  have hm := W.M.m
  have hs := W.M.s
  obtain ⟨owner, ho, _⟩ := W.M.o
  have far : ∀ {b : Addr} {o : HO}, H b = some o → (∀ kvs, o ≠ .dK kvs) → b ≠ p → b ∉ six dr p d mo ow sd := fun {b o} e n nb m => by
    simp only [six, List.mem_cons, List.not_mem_nil, or_false] at m
    rcases m with rfl | rfl | rfl | rfl | rfl | rfl
    · rw [hd] at e; exact n _ (Option.some.inj e).symm
    · exact nb rfl
    · rw [hdd] at e; exact n _ (Option.some.inj e).symm
    · rw [hm] at e; exact n _ (Option.some.inj e).symm
    · rw [ho] at e; exact n _ (Option.some.inj e).symm
    · rw [hs] at e; exact n _ (Option.some.inj e).symm
  refine ⟨⟨⟨dx, l, L, k _ _ h1 (far h1 (fun _ z => by cases z) n0), k _ _ h2 (far h2 (fun _ z => by cases z) (ne_of h2 hp (by intro z; cases z))), fun e m => k _ _ (h3 e m) (far (h3 e m) (fun _ z => by cases z) (ne_of (h3 e m) hp (by intro z; cases z))), h4⟩, k _ _ h5 ?_⟩, n0, n1, n2, n3, n4, n5⟩
  have np : d2 ≠ p := ne_of h5 hp (by intro z; cases z)
  simp [six, n1, np, n2, n3, n4, n5]
theorem Oth.same (O : Oth C H p2 d2 pol u dr p d mo ow sd) (s : Same H H') : Oth C H' p2 d2 pol u dr p d mo ow sd := ⟨O.HA.same s, O.ne⟩
theorem Oth.obj (O : Oth C H p2 d2 pol u dr p d mo ow sd) : ∃ dx l, H p2 = some (.ins C dx (flds pol u d2 l 1 1)) := by
  obtain ⟨⟨⟨dx, l, L, h1, _⟩, _⟩, _⟩ := O
  exact ⟨dx, l, h1⟩
end
theorem dropA_head {a s : Int} {r : List (Int × Int)} (h : (((a, s) :: r).map (·.1)).Nodup) : dropA ((a, s) :: r) a = r := by
  obtain ⟨h1, _⟩ := List.nodup_cons.mp (show (a :: r.map (·.1)).Nodup from h)
  unfold dropA
  rw [List.filter_cons, if_neg (by simp)]
  refine List.filter_eq_self.mpr fun p m => decide_eq_true fun e => h1 ?_
  rw [← e]
  exact List.mem_map.mpr ⟨p, m, rfl⟩
theorem kv_int (zs : List (Int × Int)) : (kvz zs).map (fun kv => kV kv.1) = (zs.map (·.1)).map V.int := by unfold kvz; rw [List.map_map, List.map_map]; rfl
theorem dp_unit {K : PySem.W.Frag} {H : Hp} {a : Addr} (h : H a = some (.tup [])) : Dp K H (.ref a) (.tuple (dP [])) := .tup (SqT.of h) .nil
/-- between two turns of the last loop -/
def Lp2 (C a dr p d mo ow sd al p2 d2 q : Addr) (pol : Pol) (u : Int) (N : Nat) (zs : List (Int × Int)) (la : Int) (v6 : Option V) (i : Nat) (σ : L2.St) (H : Hp) : Prop :=
  ∃ (pcs : List (Int × Int)) (t : Int) (v7 : Option V), σ = [some (.ref a), some (.ref dr), some (.ref al), some (.ref p), some (.ref p2), some (.ref mo), v6, v7] ∧ Wd C H dr p d mo ow sd al pol u N (zs.drop i) pcs t la ∧ t ≤ 100000 ∧
    Oth C H p2 d2 pol u dr p d mo ow sd ∧ H q = some (.lst ((zs.map (·.1)).map V.int))
section
variable {P : Program} {w : World} {K : PySem.W.Frag} {mg : Str → Option Value} {base : Heap}
theorem scLaw : FnScope ["_law_script", "_law_draws_here", "_law_allocator", "_law_heap", "_law_other", "_law_m", "_law_turn", "_law_address"] ["_law_script"] (defScope sLaw) := ⟨rfl, rfl, rfl, by decide +kernel, rfl, by decide +kernel, by decide +kernel⟩
theorem ok_law {f fR fN fLG fD fA C fI fB fP fT fS fK fG : Addr} {fd fdR fdN fdLG fdD fdA fdI fdB fdP fdT fdS fdK fdG : FuncData} (F : Fun K "law" "law" sLaw f fd) (T : Txt K mg C) (Z : Ms P w K mg base C fI fB fP fT fS fK fG fdI fdB fdP fdT fdS fdK fdG)
    (GR : FnOk P w K mg base CX0 2 fR fdR ["_law_script"] (spReader K)) (bR : Binds K fdR ["_law_script"] []) (mR : mg "_law_reader" = some (.ref fR)) (kR : PySem.W.keepIn K (.ref fR) = true)
    (GN : FnOk P w K mg base CX0 1 fN fdN ["_law_draws_here", "_law_many"] spNext) (bN : Binds K fdN ["_law_draws_here", "_law_many"] []) (mN : mg "_law_next" = some (.ref fN)) (kN : PySem.W.keepIn K (.ref fN) = true)
    (GLG : FnOk P w K mg base CX0 1 fLG fdLG ["_law_m", "_law_allocator", "_law_address"] spLGive) (bLG : Binds K fdLG ["_law_m", "_law_allocator", "_law_address"] []) (mLG : mg "_law_give" = some (.ref fLG)) (kLG : PySem.W.keepIn K (.ref fLG) = true)
    (GD : FnOk P w K mg base CX0 5 fD fdD ["_law_draws_here", "_law_heap", "_law_m", "_law_allocator"] (spDeed C)) (bD : Binds K fdD ["_law_draws_here", "_law_heap", "_law_m", "_law_allocator"] []) (mD : mg "_law_deed" = some (.ref fD)) (kD : PySem.W.keepIn K (.ref fD) = true)
    (GA : FnOk P w K mg base CX0 2 fA fdA ["_law_heap", "_law_m"] (spTold C)) (bA : Binds K fdA ["_law_heap", "_law_m"] []) (mA : mg "_law_as_told" = some (.ref fA)) (kA : PySem.W.keepIn K (.ref fA) = true) :
    FnOk P w K mg base CX0 6 f fd ["_law_script"] (spLaw K) := by
  refine F.ok scLaw (fun vs H Q E h => ?_) (fun cdv A outer s H vs Q E hr h => ?_)
  · obtain ⟨a, ns, rfl, _⟩ := h
    rfl
  · obtain ⟨a, ns, rfl, hS, hlen, k⟩ := h
    have hu := hu_of hr
    have hr1 : Room 1 _ := hr.mono (by decide)
    have hr2 : Room 2 _ := hr.mono (by decide)
    refine ⟨_, pss_cons (ps_set (i := 1) scLaw.nd rfl (Or.inl rfl) (pe_call GR hr2 rfl mR kR bR .nil pass0 (pa_cons (pv 0) pa_nil)))
      (pss_cons (ps_set (i := 2) scLaw.nd rfl (Or.inl rfl) (pe_tup (pa_cons (pe_ix ix_list (pe_lst (pa_cons pe_str (pa_cons pe_str (pa_cons pe_str (pa_cons pe_str pa_nil))))) (pe_call GN hr1 rfl mN kN bN .nil pass0 (pa_cons (pv 1) (pa_cons pe_int pa_nil))) (fun _ _ => rfl))
          (pa_cons (pe_op op_shl pe_int (pe_call GN hr1 rfl mN kN bN .nil pass0 (pa_cons (pv 1) (pa_cons pe_int pa_nil)))) pa_nil))))
      (pss_cons (ps_set (i := 3) scLaw.nd rfl (Or.inl rfl) (pe_make Z.MI Z.GI hr2 rfl T.mgC Z.bI .nil pass0 (pa_cons (pv 2) pa_nil)))
      (pss_cons (ps_set (i := 4) scLaw.nd rfl (Or.inl rfl) (pe_make Z.MI Z.GI hr2 rfl T.mgC Z.bI .nil pass0 (pa_cons (pv 2) pa_nil)))
      (pss_cons (ps_set (i := 5) scLaw.nd rfl (Or.inl rfl) (pe_disp (pps_cons pe_str pe_dnewK (pps_cons pe_str pe_dnewK (pps_cons pe_str pe_int (pps_cons pe_str pe_int pps_nil)))) (by rfl) (by rfl) (fun z => by cases z) (by decide)))
      (pss_cons (ps_for PassesOwn.never rfl (pi_range1 rfl T.range (pa_cons (pe_op op_add pe_int (pe_call GN hr1 rfl mN kN bN .nil pass0 (pa_cons (pv 1) (pa_cons pe_int pa_nil)))) pa_nil)) (pg_name (i := 6) scLaw.nd rfl (Or.inl rfl))
        (pss_one (ps_if (PW.pt (pw_or (pt_not (pt_val (pe_call GD hr rfl mD kD bD .nil pass0 (pa_cons (pv 1) (pa_cons (pv 3) (pa_cons (pv 5) (pa_cons (pv 2) pa_nil)))))))
          (pw_or1 (pt_not (pt_val (pe_call GA hr2 rfl mA kA bA .nil pass0 (pa_cons (pv 3) (pa_cons (pv 5) pa_nil)))))))) (pss_one (ps_ret pe_bl)) pss_nil)))
      (pss_cons (ps_for PassesOwn.never rfl (pi_list (pe_callTy (call_list_dK rfl) (by rfl) T.list (by decide +kernel) (pa_cons (pe_dget hu (pv 5) pe_str (fun _ _ => rfl)) pa_nil))) (pg_name (i := 7) scLaw.nd rfl (Or.inl rfl))
        (pss_one (ps_if (PW.pt (pw_or (pt_cmpR op_notBl (pe_meth (pv 3) T.cl Z.mG Z.GG hr1 Z.bG .nil pass0 (pa_cons (pv 7) pa_nil)) pe_bl (nomark _))
          (pw_or1 (pt_not (pt_val (pe_call GLG hr1 rfl mLG kLG bLG .nil pass0 (pa_cons (pv 5) (pa_cons (pv 2) (pa_cons (pv 7) pa_nil))))))))) (pss_one (ps_ret pe_bl)) pss_nil)))
      (pss_cons (ps_if (PW.pt (pw_or (pt_cmpR (op_neD hr.units) (pe_meth0 (pv 3) T.cl Z.mB Z.GB hr1 Z.bB .nil pass0) (pe_tup pa_nil) (nomark _))
          (pw_or1 (PW.pt (pw_and (pt_cmpR op_ne (pe_ix ix_tup (pv 2) pe_int (fun _ _ => rfl)) pe_str (nomark _)) (pw_and1 (pt_cmpR op_ne (pe_meth0 (pv 3) T.cl Z.mT Z.GT hr1 Z.bT .nil pass0) pe_int (nomark _)))))))) (pss_one (ps_ret pe_bl)) pss_nil)
      (pss_one (ps_ret (pe_and (pe_cmpR op_eq (pe_meth0 (pv 4) T.cl Z.mT Z.GT hr1 Z.bT .nil pass0) pe_int (nomark _))
        (pe_and (pe_cmpR (op_eqD hr.units) (pe_meth0 (pv 4) T.cl Z.mP Z.GP hr1 Z.bP .nil pass0) (pe_tup pa_nil) (nomark _))
          (pe_one (pe_cmpR op_isBl (pe_meth (pv 4) T.cl Z.mG Z.GG hr1 Z.bG .nil pass0 (pa_cons pe_int pa_nil)) pe_bl (nomark _)))))))))))))), ?_⟩
    -- draws = _law_reader(script)
    refine ⟨_, rfl, a, ns, rfl, hS, hlen, fun dr H1 s1 hdr D1 => ?_⟩
    -- the allocator
    refine ⟨(by show 4 ≤ sizeLine; decide), fun l1 hl1 => ?_⟩
    have D1' : DrawsAt (upd H1 l1 (.lst [.str "first", .str "best", .str "next", .str "bump"])) dr := D1.keep (ds := []) (Keep.of (same_new hl1)) (by simp) (fun _ m => by cases m)
    have e1 : (upd H1 l1 (.lst [.str "first", .str "best", .str "next", .str "bump"])) l1 = some (.lst [.str "first", .str "best", .str "next", .str "bump"]) := upd_same
    generalize upd H1 l1 (.lst [.str "first", .str "best", .str "next", .str "bump"]) = H2 at D1' e1 ⊢
    refine ⟨_, rfl, dr, 4, rfl, D1', by decide, fun v1 H3 a0 a1 D3 k3 => ?_⟩
    obtain ⟨kvd, hdd⟩ := D1'.dk
    have e3 := k3 _ _ e1 (by have := ne_of e1 hdd (by intro z; cases z); simp [this])
    obtain ⟨pol, hat⟩ : ∃ pol, atI [V.str "first", V.str "best", V.str "next", V.str "bump"] v1 = some (.str (ps pol)) := by
      have : v1 = 0 ∨ v1 = 1 ∨ v1 = 2 ∨ v1 = 3 := by omega
      rcases this with rfl | rfl | rfl | rfl
      · exact ⟨.first, rfl⟩
      · exact ⟨.best, rfl⟩
      · exact ⟨.next, rfl⟩
      · exact ⟨.bump, rfl⟩
    refine ⟨l1, _, v1, .str (ps pol), rfl, rfl, SqL.of e3, hat, ?_⟩
    refine ⟨_, rfl, dr, 4, rfl, D3, by decide, fun v2 H4 b0 b1 D4 k4 => ?_⟩
    obtain ⟨u, hu4, eu⟩ : ∃ u : Int, U4 u ∧ (1 : Int) * 2 ^ v2.toNat = u := by
      have : v2 = 0 ∨ v2 = 1 ∨ v2 = 2 ∨ v2 = 3 := by omega
      rcases this with rfl | rfl | rfl | rfl
      · exact ⟨1, .inl rfl, by decide⟩
      · exact ⟨2, .inr (.inl rfl), by decide⟩
      · exact ⟨4, .inr (.inr (.inl rfl)), by decide⟩
      · exact ⟨8, .inr (.inr (.inr rfl)), by decide⟩
    refine ⟨1, v2, rfl, rfl, ⟨b0, by omega, by decide⟩, (by show 2 ≤ sizeLine; decide), fun al hal => ?_⟩
    dsimp only at hal ⊢
    rw [eu]
    have D5 : DrawsAt (upd H4 al (.tup [.str (ps pol), .int u])) dr := D4.keep (ds := []) (Keep.of (same_new hal)) (by simp) (fun _ m => by cases m)
    have A5 : (upd H4 al (.tup [.str (ps pol), .int u])) al = some (.tup [.str (ps pol), .int u]) := upd_same
    generalize upd H4 al (.tup [.str (ps pol), .int u]) = H5 at D5 A5 ⊢
    -- heap = Heap(allocator)
    refine ⟨.ref al, rfl, fun p dx npp ndx nex => ?_⟩
    have m1 : Same H5 (upd (upd H5 dx (.own p)) p (.ins C dx [])) := fun b o e => by
      rw [upd_ne (ne_of_none e npp), upd_ne (ne_of_none e ndx)]
      exact e
    refine ⟨p, dx, al, pol, u, rfl, upd_same, m1 _ _ A5, fun d H6 hd0 HA6 k6 => ⟨rfl, ?_⟩⟩
    have s6 : Same H5 H6 := Same.made npp ndx fun b o e nb => k6 b o e (by simp [nb])
    have hd5 : H5 d = none := m1.free hd0
    obtain ⟨kv5, hdr5⟩ := D5.dk
    have ndrd : dr ≠ d := ne_of_none hdr5 hd5
    have D6 : DrawsAt H6 dr := D5.keep (ds := []) (Keep.of s6) (by simp) (fun _ m => by cases m)
    have A6 := s6 _ _ A5
    -- other = Heap(allocator)
    refine ⟨.ref al, rfl, fun p2 dx2 npp2 ndx2 nex2 => ?_⟩
    have m2 : Same H6 (upd (upd H6 dx2 (.own p2)) p2 (.ins C dx2 [])) := fun b o e => by
      rw [upd_ne (ne_of_none e npp2), upd_ne (ne_of_none e ndx2)]
      exact e
    refine ⟨p2, dx2, al, pol, u, rfl, upd_same, m2 _ _ A6, fun d2 H7 hd20 HA72 k7 => ⟨rfl, ?_⟩⟩
    have s7 : Same H6 H7 := Same.made npp2 ndx2 fun b o e nb => k7 b o e (by simp [nb])
    have hd26 : H6 d2 = none := m2.free hd20
    obtain ⟨⟨dxp, lp, Lp, hpp, _⟩, hdc6⟩ := id HA6
    obtain ⟨kv6, hdr6⟩ := D6.dk
    have np2p : p2 ≠ p := (ne_of_none hpp npp2).symm
    have nd2d : d2 ≠ d := (ne_of_none hdc6 hd26).symm
    have nd2dr : d2 ≠ dr := (ne_of_none hdr6 hd26).symm
    have HA7 := HA6.same s7
    have D7 : DrawsAt H7 dr := D6.keep (ds := []) (Keep.of s7) (by simp) (fun _ m => by cases m)
    have A7 := s7 _ _ A6
    -- m = {..}
    intro mo hmo ow how sd hsd
    have nmw : mo ≠ ow := ne_of_none upd_same how
    have nms : mo ≠ sd := ne_of_none (Eq.trans (upd_ne nmw) upd_same) hsd
    have nws : ow ≠ sd := ne_of_none upd_same hsd
    have s8 : Same H7 (upd (upd (upd (upd H7 mo (.dK [])) ow (.dK [])) sd (.dK [])) mo (.dK (mkv ow sd 1 1))) := fun b o e => by
      have q1 := same_new (o := .dK []) hmo _ _ e
      have q2 := same_new (o := .dK []) how _ _ q1
      have q3 := same_new (o := .dK []) hsd _ _ q2
      rw [upd_ne (ne_of_none e hmo)]
      exact q3
    refine ⟨Eq.trans (upd_ne nms) (Eq.trans (upd_ne nmw) upd_same), mkv ow sd 1 1, rfl, (by show 4 ≤ 15; decide), ?_⟩
    have M8 : ModAt (upd (upd (upd (upd H7 mo (.dK [])) ow (.dK [])) sd (.dK [])) mo (.dK (mkv ow sd 1 1))) mo ow sd 0 [] 1 1 := by
      refine ⟨upd_same, by rw [upd_ne nms.symm, upd_same]; rfl, ⟨[], by rw [upd_ne nmw.symm, upd_ne nws, upd_same], Nat.le_refl _, fun w => ⟨fun q => (by cases q), fun ⟨_, m, _⟩ => by cases m⟩⟩, nmw, nms, nws⟩
    have far : ∀ {b : Addr} {o : HO}, H7 b = some o → b ≠ mo ∧ b ≠ ow ∧ b ≠ sd := fun e => by
      have q1 := same_new (o := .dK []) hmo _ _ e
      have q2 := same_new (o := .dK []) how _ _ q1
      exact ⟨ne_of_none e hmo, ne_of_none q1 how, ne_of_none q2 hsd⟩
    obtain ⟨kv7, hdr7⟩ := D7.dk
    have W8 : Wd C (upd (upd (upd (upd H7 mo (.dK [])) ow (.dK [])) sd (.dK [])) mo (.dK (mkv ow sd 1 1))) dr p d mo ow sd al pol u 0 [] [] 1 1 :=
      ⟨D7.keep (ds := []) (Keep.of s8) (by simp) (fun _ m => by cases m), s8 _ _ A7, HA7.same s8, M8, hok_start _, hu4, ⟨⟨ndrd, far hdr7⟩, far HA7.dc⟩⟩
    have O8 : Oth C (upd (upd (upd (upd H7 mo (.dK [])) ow (.dK [])) sd (.dK [])) mo (.dK (mkv ow sd 1 1))) p2 d2 pol u dr p d mo ow sd :=
      ⟨HA72.same s8, np2p, nd2dr, nd2d, far HA72.dc⟩
    show gName 5 _ _ (upd (upd (upd (upd H7 mo (.dK [])) ow (.dK [])) sd (.dK [])) mo (.dK (mkv ow sd 1 1))) _
    generalize upd (upd (upd (upd H7 mo (.dK [])) ow (.dK [])) sd (.dK [])) mo (.dK (mkv ow sd 1 1)) = H8 at W8 O8 ⊢
    -- for turn in range(5 + ..)
    refine ⟨_, rfl, dr, 66, rfl, W8.D, by decide, fun v9 H9 c0 c1 D9 k9 => ?_⟩
    have W9 := W8.draw D9 k9
    have O9 := O8.keep W8 (k9.mono (by simp))
    refine ⟨5, v9, rfl, rfl, 5 + v9, rfl, by omega, by omega, ?_⟩
    refine for_range (lo := 0) (n := (5 + v9).toNat) (fun i σ H' => ∃ (zs pcs : List (Int × Int)) (t la : Int) (v6 : Option V), σ = [some (.ref a), some (.ref dr), some (.ref al), some (.ref p), some (.ref p2), some (.ref mo), v6, none] ∧ Wd C H' dr p d mo ow sd al pol u (48 * i) zs pcs t la ∧
        zs.length ≤ i ∧ t ≤ 1 + 48 * (i : Int) ∧ Oth C H' p2 d2 pol u dr p d mo ow sd)
      ⟨[], [], 1, 1, none, rfl, W9, Nat.le_refl _, by decide, O9⟩ ?_ ?_
    · rintro i σ H10 hi ⟨zs, pcs, t, la, v6, rfl, W, hz, ht, O⟩
      have hi70 : i ≤ 80 := by omega
      refine ⟨_, rfl, _, rfl, _, rfl, _, rfl, dr, p, d, mo, ow, sd, al, pol, u, i, zs, pcs, t, la, rfl, W, hz, ht, by omega, fun zs' pcs' t' la' H11 W' hz' ht' K' => ⟨true, rfl, ?_⟩⟩
      refine iteF ?_
      have O' := O.keep W K'
      refine ⟨_, rfl, _, rfl, p, d, mo, ow, sd, _, pol, u, zs', pcs', t', la', rfl, W'.HA, W'.M, W'.ok, by omega, by omega, fun H12 s12 => ⟨true, rfl, ?_⟩⟩
      refine iteF ?_
      exact ⟨zs', pcs', t', la', _, rfl, W'.same s12, hz', ht', O'.same s12⟩
    · rintro σ H10 ⟨zs, pcs, t, la, v6, rfl, W, hz, ht, O⟩
      have hn80 : (5 + v9).toNat ≤ 80 := by omega
      generalize (5 + v9).toNat = n at W hz ht hn80
      -- for address in list(m['sizes'])
      refine ⟨_, rfl, mo, _, rfl, W.M.gSizes, sd, kvz zs, rfl, W.M.s, fun q hq => ?_⟩
      rw [kv_int]
      have sq := same_new (o := .lst ((zs.map (·.1)).map V.int)) hq
      have W11 := W.same sq
      have O11 := O.same sq
      have e11 : (upd H10 q (.lst ((zs.map (·.1)).map V.int))) q = some (.lst ((zs.map (·.1)).map V.int)) := upd_same
      generalize upd H10 q (.lst ((zs.map (·.1)).map V.int)) = H11 at W11 O11 e11 ⊢
      refine ⟨q, rfl, ⟨_, SqL.of e11⟩, ?_⟩
      refine for_list (K := K) (a := q) (xs := (zs.map (·.1)).map V.int) (Lp2 C a dr p d mo ow sd al p2 d2 q pol u (48 * n) zs la v6)
        ⟨pcs, t, none, rfl, W11, by omega, O11, e11⟩ (fun i σ H' _ ⟨_, _, _, _, _, _, _, h⟩ => SqL.of h) ?_ ?_
      · rintro i x σ H12 hi ⟨pcs', t', v7, rfl, W12, ht', O12, e12⟩
        rw [List.map_map, List.getElem?_map] at hi
        cases ez : zs[i]? with
        | none => rw [ez] at hi; cases hi
        | some z =>
          rw [ez] at hi
          obtain ⟨ad, sz⟩ := z
          have ex : V.int ad = x := Option.some.inj hi
          subst ex
          have hil := get_lt ez
          have ed : zs.drop i = (ad, sz) :: zs.drop (i + 1) := by
            rw [List.drop_eq_getElem_cons hil]
            congr 1
            exact (List.getElem?_eq_some_iff.mp ez).2
          have lk : look (zs.drop i) ad = some sz := look_mem W12.ok.good.nd (by rw [ed]; simp)
          have dh : dropA (zs.drop i) ad = zs.drop (i + 1) := by
            have nd := W12.ok.good.nd
            rw [ed] at nd ⊢
            exact dropA_head nd
          obtain ⟨dx8, l8, hp8⟩ := W12.obj
          refine ⟨_, rfl, p, dx8, _, rfl, hp8, flds_no (by decide +kernel), .int ad, rfl, ?_⟩
          dsimp only [tNil, List.append_nil]
          refine spGive_mono (E := E0) (give_end (R := fun b H' => b = true → Lp2 C a dr p d mo ow sd al p2 d2 q pol u (48 * n) zs la v6 (i + 1) [some (.ref a), some (.ref dr), some (.ref al), some (.ref p), some (.ref p2), some (.ref mo), v6, some (.int ad)] H') (E := E0) W12 ht'
            (fun _ z => by cases z) (fun s' _ pcs2 t2 H13 W13 ht2 K13 _ => ⟨pcs2, t2, _, rfl, by rw [← dh]; exact W13, by omega, O12.keep W12 K13, ?_⟩)) ?_
          · obtain ⟨kvd, hdd⟩ := W12.D.dk
            obtain ⟨owner, ho, _⟩ := W12.M.o
            exact K13 _ _ e12 (by
              have n1 := ne_of e12 hdd (by intro z; cases z)
              have n2 := ne_of e12 hp8 (by intro z; cases z)
              have n3 := ne_of e12 W12.HA.dc (by intro z; cases z)
              have n4 := ne_of e12 W12.M.m (by intro z; cases z)
              have n5 := ne_of e12 ho (by intro z; cases z)
              have n6 := ne_of e12 W12.M.s (by intro z; cases z)
              simp [six, n1, n2, n3, n4, n5, n6])
          · rintro x H13 ⟨b, rfl, hb, h13⟩
            rw [lk] at hb
            have hb : b = true := hb
            subst hb
            refine ⟨true, true, rfl, rfl, _, rfl, ?_⟩
            refine iteNS rfl ?_
            refine ⟨_, rfl, _, rfl, .int ad, rfl, ?_⟩
            dsimp only [tNil, List.append_nil]
            refine spLGive_mono (E := E0) h13 ?_
            rintro y H14 ⟨rfl, h14⟩
            refine ⟨true, rfl, ?_⟩
            refine iteF ?_
            exact h14 rfl
      · rintro σ H12 ⟨pcs', t', v7, rfl, W12, ht', O12, e12⟩
        have e0 : zs.drop ((zs.map (·.1)).map V.int).length = [] := by rw [List.length_map, List.length_map]; exact List.drop_length
        rw [e0] at W12
        obtain ⟨dx8, l8, hp8⟩ := W12.obj
        -- heap.blocks() != ()
        refine ⟨_, rfl, p, dx8, _, rfl, hp8, flds_no (by decide +kernel), p, d, pol, u, [], pcs', t', la, rfl, W12.HA, by decide, fun ys qb H13 hp13 hs13 s13 B13 => ?_⟩
        have hy : ys = [] := List.Perm.eq_nil hp13
        subst hy
        refine ⟨Nat.zero_le _, fun tb htb => ?_⟩
        have sb : Same H13 (upd H13 tb (.tup [])) := same_new htb
        refine ⟨_, _, dp_tup (B13.same sb), dp_unit upd_same, shp_tP _, shp_tP _, _, rfl, ?_⟩
        have ev : PyData.eqv (.tuple (dP (blk [] []))) (.tuple (dP [])) = true := eqv_tP []
        rw [ev]
        refine iteF ?_
        have W14 := (W12.same s13).same sb
        have O14 := (O12.same s13).same sb
        generalize upd H13 tb (.tup []) = H14 at W14 O14 ⊢
        -- allocator[0] != 'bump'
        refine ⟨_, rfl, al, _, _, _, rfl, rfl, SqT.of W14.A, rfl, rfl, _, rfl, ?_⟩
        rw [ps_bump]
        refine ite2 (fun hb => ?_) (fun hb => ?_)
        · have hbf : isBump pol = false := by simpa using hb
          have t1 : t' = 1 := by
            rcases W14.ok.ti hbf with z | ⟨_, m, _⟩
            · exact z
            · cases m
          obtain ⟨dx9, l9, hp9⟩ := W14.obj
          refine ⟨_, rfl, p, dx9, _, rfl, hp9, flds_no (by decide +kernel), p, d, pol, u, [], pcs', t', la, rfl, W14.HA, rfl, _, rfl, ?_⟩
          rw [dec_int]
          refine iteNS t1 ?_
          have OF := O14
          obtain ⟨dx2', l2', hp2'⟩ := OF.obj
          refine ⟨_, rfl, p2, dx2', _, rfl, hp2', flds_no (by decide +kernel), p2, d2, pol, u, [], [], 1, 1, rfl, OF.HA, rfl, true, (by rw [dec_int]; rfl), iteT ?_⟩
          refine ⟨_, rfl, p2, dx2', _, rfl, hp2', flds_no (by decide +kernel), p2, d2, pol, u, [], [], 1, 1, rfl, OF.HA, fun qf Hf sf Bf => ?_⟩
          refine ⟨Nat.zero_le _, fun tf htf => ?_⟩
          have sg : Same Hf (upd Hf tf (.tup [])) := same_new htf
          refine ⟨_, _, dp_tup (Bf.same sg), dp_unit upd_same, shp_tP _, shp_tP _, true, (by rw [eqv_tP]), iteT ?_⟩
          have OG := (OF.same sf).same sg
          obtain ⟨dx3, l3, hp3⟩ := OG.obj
          refine ⟨_, rfl, p2, dx3, _, rfl, hp3, flds_no (by decide +kernel), ?_⟩
          refine ⟨p2, d2, pol, u, [], [], 1, 1, 1, rfl, OG.HA, hok_start _, by decide, fun _ => ?_, fun s' hs' => (by cases hs')⟩
          exact ⟨false, false, rfl, rfl, k _⟩
        · refine iteF ?_
          have OF := O14
          obtain ⟨dx2', l2', hp2'⟩ := OF.obj
          refine ⟨_, rfl, p2, dx2', _, rfl, hp2', flds_no (by decide +kernel), p2, d2, pol, u, [], [], 1, 1, rfl, OF.HA, rfl, true, (by rw [dec_int]; rfl), iteT ?_⟩
          refine ⟨_, rfl, p2, dx2', _, rfl, hp2', flds_no (by decide +kernel), p2, d2, pol, u, [], [], 1, 1, rfl, OF.HA, fun qf Hf sf Bf => ?_⟩
          refine ⟨Nat.zero_le _, fun tf htf => ?_⟩
          have sg : Same Hf (upd Hf tf (.tup [])) := same_new htf
          refine ⟨_, _, dp_tup (Bf.same sg), dp_unit upd_same, shp_tP _, shp_tP _, true, (by rw [eqv_tP]), iteT ?_⟩
          have OG := (OF.same sf).same sg
          obtain ⟨dx3, l3, hp3⟩ := OG.obj
          refine ⟨_, rfl, p2, dx3, _, rfl, hp3, flds_no (by decide +kernel), ?_⟩
          refine ⟨p2, d2, pol, u, [], [], 1, 1, 1, rfl, OG.HA, hok_start _, by decide, fun _ => ?_, fun s' hs' => (by cases hs')⟩
          exact ⟨false, false, rfl, rfl, k _⟩
end
end OW
/-! What the top has written, and the end. -/
namespace OW
open PySem PySem.Spec PyProof.Rows L2 OO
theorem all_mk {l : PySem.W.OpenLaw} {w : World} {K : PySem.W.Frag} {h : Heap} {mg : Str → Option Value} {fa C f1 f2 f3 f4 f5 f6 f7 f8 f9 f10 f11 f12 f13 f14 f15 f16 f17 f18 f19 : Addr} (X : K.In h) (G : h.Ns mainGlobals mg) (hfa : mg "law" = some (.ref fa))
    {od1 an1 od2 an2 od3 an3 od4 an4 od5 an5 od6 an6 od7 an7 od8 an8 od9 an9 od10 an10 od11 an11 od12 an12 od13 an13 od14 an14 od15 an15 od16 an16 od17 an17 od18 an18 od19 an19 : Option Addr} {sl1 sl2 sl3 sl4 sl5 sl6 sl7 sl8 sl9 sl10 sl11 sl12 sl13 sl14 sl15 sl16 sl17 sl18 sl19 : Array (Option Value)} {oc1 kV1 dc1 pm1 cd1 ct1 oc2 kV2 dc2 pm2 cd2 ct2 oc3 kV3 dc3 pm3 cd3 ct3 oc4 kV4 dc4 pm4 cd4 ct4 oc5 kV5 dc5 pm5 cd5 ct5 oc6 kV6 dc6 pm6 cd6 ct6 oc7 kV7 dc7 pm7 cd7 ct7 oc8 kV8 dc8 pm8 cd8 ct8 oc9 kV9 dc9 pm9 cd9 ct9 oc10 kV10 dc10 pm10 cd10 ct10 oc11 kV11 dc11 pm11 cd11 ct11 oc12 kV12 dc12 pm12 cd12 ct12 oc13 kV13 dc13 pm13 cd13 ct13 oc14 kV14 dc14 pm14 cd14 ct14 oc15 kV15 dc15 pm15 cd15 ct15 oc16 kV16 dc16 pm16 cd16 ct16 oc17 kV17 dc17 pm17 cd17 ct17 oc18 kV18 dc18 pm18 cd18 ct18 oc19 kV19 dc19 pm19 cd19 ct19 : Value}
    (aC : PySem.W.nsIn K mainGlobals "Heap" = some (some (.ref C)))
    (a1 : PySem.W.findIn K (.ref C) "__init__" = some (some (.ref f1))) (i1 : PySem.W.isFn K (.ref f1) = true)
    (l1 : K.lookup f1 = some ⟨oc1, od1, .func (PySem.W.fnOf "__init__" "Heap.__init__" (defArgs sInit) (defBody sInit) (defScope sInit) .none kV1 dc1 pm1 an1 cd1 ct1), sl1⟩) (c1 : PySem.W.codeIn K cd1 "Heap.__init__" = true) (k1 : PySem.W.keepIn K (.ref f1) = true)
    (a2 : PySem.W.findIn K (.ref C) "blocks" = some (some (.ref f2))) (i2 : PySem.W.isFn K (.ref f2) = true)
    (l2 : K.lookup f2 = some ⟨oc2, od2, .func (PySem.W.fnOf "blocks" "Heap.blocks" (defArgs sBlocks) (defBody sBlocks) (defScope sBlocks) .none kV2 dc2 pm2 an2 cd2 ct2), sl2⟩) (c2 : PySem.W.codeIn K cd2 "Heap.blocks" = true) (k2 : PySem.W.keepIn K (.ref f2) = true)
    (a3 : PySem.W.findIn K (.ref C) "pieces" = some (some (.ref f3))) (i3 : PySem.W.isFn K (.ref f3) = true)
    (l3 : K.lookup f3 = some ⟨oc3, od3, .func (PySem.W.fnOf "pieces" "Heap.pieces" (defArgs sPieces) (defBody sPieces) (defScope sPieces) .none kV3 dc3 pm3 an3 cd3 ct3), sl3⟩) (c3 : PySem.W.codeIn K cd3 "Heap.pieces" = true) (k3 : PySem.W.keepIn K (.ref f3) = true)
    (a4 : PySem.W.findIn K (.ref C) "top" = some (some (.ref f4))) (i4 : PySem.W.isFn K (.ref f4) = true)
    (l4 : K.lookup f4 = some ⟨oc4, od4, .func (PySem.W.fnOf "top" "Heap.top" (defArgs sTop) (defBody sTop) (defScope sTop) .none kV4 dc4 pm4 an4 cd4 ct4), sl4⟩) (c4 : PySem.W.codeIn K cd4 "Heap.top" = true) (k4 : PySem.W.keepIn K (.ref f4) = true)
    (a5 : PySem.W.findIn K (.ref C) "size" = some (some (.ref f5))) (i5 : PySem.W.isFn K (.ref f5) = true)
    (l5 : K.lookup f5 = some ⟨oc5, od5, .func (PySem.W.fnOf "size" "Heap.size" (defArgs sSize) (defBody sSize) (defScope sSize) .none kV5 dc5 pm5 an5 cd5 ct5), sl5⟩) (c5 : PySem.W.codeIn K cd5 "Heap.size" = true) (k5 : PySem.W.keepIn K (.ref f5) = true)
    (a6 : PySem.W.findIn K (.ref C) "take" = some (some (.ref f6))) (i6 : PySem.W.isFn K (.ref f6) = true)
    (l6 : K.lookup f6 = some ⟨oc6, od6, .func (PySem.W.fnOf "take" "Heap.take" (defArgs sTake) (defBody sTake) (defScope sTake) .none kV6 dc6 pm6 an6 cd6 ct6), sl6⟩) (c6 : PySem.W.codeIn K cd6 "Heap.take" = true) (k6 : PySem.W.keepIn K (.ref f6) = true)
    (a7 : PySem.W.findIn K (.ref C) "chosen" = some (some (.ref f7))) (i7 : PySem.W.isFn K (.ref f7) = true)
    (l7 : K.lookup f7 = some ⟨oc7, od7, .func (PySem.W.fnOf "chosen" "Heap.chosen" (defArgs sChosen) (defBody sChosen) (defScope sChosen) .none kV7 dc7 pm7 an7 cd7 ct7), sl7⟩) (c7 : PySem.W.codeIn K cd7 "Heap.chosen" = true) (k7 : PySem.W.keepIn K (.ref f7) = true)
    (a8 : PySem.W.findIn K (.ref C) "give" = some (some (.ref f8))) (i8 : PySem.W.isFn K (.ref f8) = true)
    (l8 : K.lookup f8 = some ⟨oc8, od8, .func (PySem.W.fnOf "give" "Heap.give" (defArgs sGive) (defBody sGive) (defScope sGive) .none kV8 dc8 pm8 an8 cd8 ct8), sl8⟩) (c8 : PySem.W.codeIn K cd8 "Heap.give" = true) (k8 : PySem.W.keepIn K (.ref f8) = true)
    (a9 : PySem.W.nsIn K mainGlobals "_law_draws" = some (some (.ref f9)))
    (l9 : K.lookup f9 = some ⟨oc9, od9, .func (PySem.W.fnOf "_law_draws" "_law_draws" (defArgs sDraws) (defBody sDraws) (defScope sDraws) .none kV9 dc9 pm9 an9 cd9 ct9), sl9⟩) (c9 : PySem.W.codeIn K cd9 "_law_draws" = true) (k9 : PySem.W.keepIn K (.ref f9) = true)
    (a10 : PySem.W.nsIn K mainGlobals "_law_reader" = some (some (.ref f10)))
    (l10 : K.lookup f10 = some ⟨oc10, od10, .func (PySem.W.fnOf "_law_reader" "_law_reader" (defArgs sReader) (defBody sReader) (defScope sReader) .none kV10 dc10 pm10 an10 cd10 ct10), sl10⟩) (c10 : PySem.W.codeIn K cd10 "_law_reader" = true) (k10 : PySem.W.keepIn K (.ref f10) = true)
    (a11 : PySem.W.nsIn K mainGlobals "_law_next" = some (some (.ref f11)))
    (l11 : K.lookup f11 = some ⟨oc11, od11, .func (PySem.W.fnOf "_law_next" "_law_next" (defArgs sNext) (defBody sNext) (defScope sNext) .none kV11 dc11 pm11 an11 cd11 ct11), sl11⟩) (c11 : PySem.W.codeIn K cd11 "_law_next" = true) (k11 : PySem.W.keepIn K (.ref f11) = true)
    (a12 : PySem.W.nsIn K mainGlobals "_law_runs" = some (some (.ref f12)))
    (l12 : K.lookup f12 = some ⟨oc12, od12, .func (PySem.W.fnOf "_law_runs" "_law_runs" (defArgs sRuns) (defBody sRuns) (defScope sRuns) .none kV12 dc12 pm12 an12 cd12 ct12), sl12⟩) (c12 : PySem.W.codeIn K cd12 "_law_runs" = true) (k12 : PySem.W.keepIn K (.ref f12) = true)
    (a13 : PySem.W.nsIn K mainGlobals "_law_fits" = some (some (.ref f13)))
    (l13 : K.lookup f13 = some ⟨oc13, od13, .func (PySem.W.fnOf "_law_fits" "_law_fits" (defArgs sFits) (defBody sFits) (defScope sFits) .none kV13 dc13 pm13 an13 cd13 ct13), sl13⟩) (c13 : PySem.W.codeIn K cd13 "_law_fits" = true) (k13 : PySem.W.keepIn K (.ref f13) = true)
    (a14 : PySem.W.nsIn K mainGlobals "_law_chosen" = some (some (.ref f14)))
    (l14 : K.lookup f14 = some ⟨oc14, od14, .func (PySem.W.fnOf "_law_chosen" "_law_chosen" (defArgs sLChosen) (defBody sLChosen) (defScope sLChosen) .none kV14 dc14 pm14 an14 cd14 ct14), sl14⟩) (c14 : PySem.W.codeIn K cd14 "_law_chosen" = true) (k14 : PySem.W.keepIn K (.ref f14) = true)
    (a15 : PySem.W.nsIn K mainGlobals "_law_take" = some (some (.ref f15)))
    (l15 : K.lookup f15 = some ⟨oc15, od15, .func (PySem.W.fnOf "_law_take" "_law_take" (defArgs sLTake) (defBody sLTake) (defScope sLTake) .none kV15 dc15 pm15 an15 cd15 ct15), sl15⟩) (c15 : PySem.W.codeIn K cd15 "_law_take" = true) (k15 : PySem.W.keepIn K (.ref f15) = true)
    (a16 : PySem.W.nsIn K mainGlobals "_law_give" = some (some (.ref f16)))
    (l16 : K.lookup f16 = some ⟨oc16, od16, .func (PySem.W.fnOf "_law_give" "_law_give" (defArgs sLGive) (defBody sLGive) (defScope sLGive) .none kV16 dc16 pm16 an16 cd16 ct16), sl16⟩) (c16 : PySem.W.codeIn K cd16 "_law_give" = true) (k16 : PySem.W.keepIn K (.ref f16) = true)
    (a17 : PySem.W.nsIn K mainGlobals "_law_as_told" = some (some (.ref f17)))
    (l17 : K.lookup f17 = some ⟨oc17, od17, .func (PySem.W.fnOf "_law_as_told" "_law_as_told" (defArgs sTold) (defBody sTold) (defScope sTold) .none kV17 dc17 pm17 an17 cd17 ct17), sl17⟩) (c17 : PySem.W.codeIn K cd17 "_law_as_told" = true) (k17 : PySem.W.keepIn K (.ref f17) = true)
    (a18 : PySem.W.nsIn K mainGlobals "_law_deed" = some (some (.ref f18)))
    (l18 : K.lookup f18 = some ⟨oc18, od18, .func (PySem.W.fnOf "_law_deed" "_law_deed" (defArgs sDeed) (defBody sDeed) (defScope sDeed) .none kV18 dc18 pm18 an18 cd18 ct18), sl18⟩) (c18 : PySem.W.codeIn K cd18 "_law_deed" = true) (k18 : PySem.W.keepIn K (.ref f18) = true)
    (a19 : PySem.W.nsIn K mainGlobals "law" = some (some (.ref f19)))
    (l19 : K.lookup f19 = some ⟨oc19, od19, .func (PySem.W.fnOf "law" "law" (defArgs sLaw) (defBody sLaw) (defScope sLaw) .none kV19 dc19 pm19 an19 cd19 ct19), sl19⟩) (c19 : PySem.W.codeIn K cd19 "law" = true) (k19 : PySem.W.keepIn K (.ref f19) = true)
    (pg : PySem.W.plainGet K C Str.empty = true) (hd : PySem.W.hasDictIn K C = true) (po : PySem.W.plainOver K C = true) (sa : PySem.W.findIn K (.ref C) "__setattr__" = some (some (.builtin "object.__setattr__"))) (mk : PySem.W.makesIn K C = true) (kc : PySem.W.keepIn K (.ref C) = true)
    (nPol : PySem.W.findIn K (.ref C) "_policy" = some none)
    (nUni : PySem.W.findIn K (.ref C) "_unit" = some none)
    (nSiz : PySem.W.findIn K (.ref C) "_sizes" = some none)
    (nPie : PySem.W.findIn K (.ref C) "_pieces" = some none)
    (nTop : PySem.W.findIn K (.ref C) "_top" = some none)
    (nLas : PySem.W.findIn K (.ref C) "_last" = some none)
    (z_len : PySem.W.nsIn K mainGlobals "len" = some none)
    (z_tuple : PySem.W.nsIn K mainGlobals "tuple" = some none)
    (z_sorted : PySem.W.nsIn K mainGlobals "sorted" = some none)
    (z_range : PySem.W.nsIn K mainGlobals "range" = some none)
    (z_max : PySem.W.nsIn K mainGlobals "max" = some none)
    (z_min : PySem.W.nsIn K mainGlobals "min" = some none)
    (z_abs : PySem.W.nsIn K mainGlobals "abs" = some none)
    (z_int : PySem.W.nsIn K mainGlobals "int" = some none)
    (z_all : PySem.W.nsIn K mainGlobals "all" = some none)
    (z_list : PySem.W.nsIn K mainGlobals "list" = some none)
    : ∃ fd : FuncData, (∀ (s : Shared) (v : Value), BindsTo s fd ⟨[v], []⟩ [("_law_script", v)]) ∧ ∀ base : Heap, K.In base → base.Ns mainGlobals mg → FnOk l.prog w K mg base CX0 6 fa fd ["_law_script"] (spLaw K) := by
  have e := hfa.symm.trans (PySem.W.mg_of X G a19)
  cases e
  have T : Txt K mg C := ⟨⟨pg, hd, po, sa⟩, nPol, nUni, nSiz, nPie, nTop, nLas, PySem.W.mg_of X G aC, PySem.W.mg_none_of X G z_len, PySem.W.mg_none_of X G z_tuple, PySem.W.mg_none_of X G z_sorted, PySem.W.mg_none_of X G z_range, PySem.W.mg_none_of X G z_max, PySem.W.mg_none_of X G z_min, PySem.W.mg_none_of X G z_abs, PySem.W.mg_none_of X G z_int, PySem.W.mg_none_of X G z_all, PySem.W.mg_none_of X G z_list⟩
  have F1 := fun_mk (st := sInit) l1 c1 k1
  have b1 := F1.binds (ps := ["self", "allocator"]) fun _ _ _ _ _ _ us hl => match us, hl with | [_, _], _ => rfl
  have F2 := fun_mk (st := sBlocks) l2 c2 k2
  have b2 := F2.binds (ps := ["self"]) fun _ _ _ _ _ _ us hl => match us, hl with | [_], _ => rfl
  have F3 := fun_mk (st := sPieces) l3 c3 k3
  have b3 := F3.binds (ps := ["self"]) fun _ _ _ _ _ _ us hl => match us, hl with | [_], _ => rfl
  have F4 := fun_mk (st := sTop) l4 c4 k4
  have b4 := F4.binds (ps := ["self"]) fun _ _ _ _ _ _ us hl => match us, hl with | [_], _ => rfl
  have F5 := fun_mk (st := sSize) l5 c5 k5
  have b5 := F5.binds (ps := ["self", "address"]) fun _ _ _ _ _ _ us hl => match us, hl with | [_, _], _ => rfl
  have F6 := fun_mk (st := sTake) l6 c6 k6
  have b6 := F6.binds (ps := ["self", "many"]) fun _ _ _ _ _ _ us hl => match us, hl with | [_, _], _ => rfl
  have F7 := fun_mk (st := sChosen) l7 c7 k7
  have b7 := F7.binds (ps := ["self", "size"]) fun _ _ _ _ _ _ us hl => match us, hl with | [_, _], _ => rfl
  have F8 := fun_mk (st := sGive) l8 c8 k8
  have b8 := F8.binds (ps := ["self", "address"]) fun _ _ _ _ _ _ us hl => match us, hl with | [_, _], _ => rfl
  have F9 := fun_mk (st := sDraws) l9 c9 k9
  have b9 := F9.binds (ps := ["_law_script"]) fun _ _ _ _ _ _ us hl => match us, hl with | [_], _ => rfl
  have F10 := fun_mk (st := sReader) l10 c10 k10
  have b10 := F10.binds (ps := ["_law_script"]) fun _ _ _ _ _ _ us hl => match us, hl with | [_], _ => rfl
  have F11 := fun_mk (st := sNext) l11 c11 k11
  have b11 := F11.binds (ps := ["_law_draws_here", "_law_many"]) fun _ _ _ _ _ _ us hl => match us, hl with | [_, _], _ => rfl
  have F12 := fun_mk (st := sRuns) l12 c12 k12
  have b12 := F12.binds (ps := ["_law_m"]) fun _ _ _ _ _ _ us hl => match us, hl with | [_], _ => rfl
  have F13 := fun_mk (st := sFits) l13 c13 k13
  have b13 := F13.binds (ps := ["_law_m", "_law_size"]) fun _ _ _ _ _ _ us hl => match us, hl with | [_, _], _ => rfl
  have F14 := fun_mk (st := sLChosen) l14 c14 k14
  have b14 := F14.binds (ps := ["_law_m", "_law_policy", "_law_size"]) fun _ _ _ _ _ _ us hl => match us, hl with | [_, _, _], _ => rfl
  have F15 := fun_mk (st := sLTake) l15 c15 k15
  have b15 := F15.binds (ps := ["_law_m", "_law_allocator", "_law_many"]) fun _ _ _ _ _ _ us hl => match us, hl with | [_, _, _], _ => rfl
  have F16 := fun_mk (st := sLGive) l16 c16 k16
  have b16 := F16.binds (ps := ["_law_m", "_law_allocator", "_law_address"]) fun _ _ _ _ _ _ us hl => match us, hl with | [_, _, _], _ => rfl
  have F17 := fun_mk (st := sTold) l17 c17 k17
  have b17 := F17.binds (ps := ["_law_heap", "_law_m"]) fun _ _ _ _ _ _ us hl => match us, hl with | [_, _], _ => rfl
  have F18 := fun_mk (st := sDeed) l18 c18 k18
  have b18 := F18.binds (ps := ["_law_draws_here", "_law_heap", "_law_m", "_law_allocator"]) fun _ _ _ _ _ _ us hl => match us, hl with | [_, _, _, _], _ => rfl
  have F19 := fun_mk (st := sLaw) l19 c19 k19
  have b19 := F19.binds (ps := ["_law_script"]) fun _ _ _ _ _ _ us hl => match us, hl with | [_], _ => rfl
  refine ⟨PySem.W.fnOf "law" "law" (defArgs sLaw) (defBody sLaw) (defScope sLaw) .none kV19 dc19 pm19 an19 cd19 ct19, fun s v => .of_eq rfl, fun base _ _ => ?_⟩
  have Z : Ms l.prog w K mg base C f1 f2 f3 f4 f5 f6 f8 _ _ _ _ _ _ _ :=
    ⟨ok_init F1 T, b1, ⟨mk, a1, i1, kc⟩, ok_blocks F2 T, b2, ⟨a2, i2, k2⟩, ok_pieces F3 T, b3, ⟨a3, i3, k3⟩, ok_top F4 T, b4, ⟨a4, i4, k4⟩, ok_size F5 T, b5, ⟨a5, i5, k5⟩, ok_take F6 T (ok_chosen F7 T) b7 ⟨a7, i7, k7⟩, b6, ⟨a6, i6, k6⟩, ok_give F8 T, b8, ⟨a8, i8, k8⟩⟩
  have GN := ok_next (P := l.prog) (w := w) (base := base) F11 T
  have GRu := ok_runs (P := l.prog) (w := w) (base := base) F12 T
  have GF := ok_fits F13 T GRu b12 (PySem.W.mg_of X G a12) k12
  have GC := ok_lchosen F14 T GF b13 (PySem.W.mg_of X G a13) k13
  have GLT := ok_ltake F15 T GC b14 (PySem.W.mg_of X G a14) k14
  have GLG := ok_lgive (P := l.prog) (w := w) (base := base) F16 T
  have GR := ok_reader F10 T (ok_draws (P := l.prog) (w := w) (base := base) F9 T) b9 (PySem.W.mg_of X G a9) k9
  have GA := ok_told F17 T Z GRu b12 (PySem.W.mg_of X G a12) k12
  have GD := ok_deed F18 T Z GN b11 (PySem.W.mg_of X G a11) k11 GLT b15 (PySem.W.mg_of X G a15) k15 GLG b16 (PySem.W.mg_of X G a16) k16
  exact ok_law F19 T Z GR b10 (PySem.W.mg_of X G a10) k10 GN b11 (PySem.W.mg_of X G a11) k11 GLG b16 (PySem.W.mg_of X G a16) k16 GD b18 (PySem.W.mg_of X G a18) k18 GA b17 (PySem.W.mg_of X G a17) k17
theorem walk {l : PySem.W.OpenLaw} {q : Program} {loose : List Str} {XP : (Str → Option Value) → Heap → Prop} {YP : World → Heap → Prop} {d : DefRec} {K : Params → PySem.W.Frag} (hn : l.most = some 63) (hdf : d.params.defaults = [])
    (hY : ∀ (w : World) (h : Heap), YP w h → (K w.params).In h)
    (F : ∀ (w : World) (mg : Str → Option Value) (fa : Addr) (h : Heap), (K w.params).In h → h.Ns mainGlobals mg → mg d.name = some (.ref fa) →
      ∃ fd : FuncData, (∀ (s : Shared) (u : Value), BindsTo s fd ⟨[u], []⟩ [("_law_script", u)]) ∧ ∀ base : Heap, (K w.params).In base → base.Ns mainGlobals mg → FnOk l.prog w (K w.params) mg base CX0 6 fa fd ["_law_script"] (spLaw (K w.params))) :
    PySem.W.WalkO q loose XP YP l.row.toRowW d [] (fun f vs => PySem.call f vs) :=
  L2.walk_of (n := 63) (k := 6) (x := "_law_script") (CX := fun _ => CX0) (sp := fun w => spLaw (K w.params)) hn (by decide) hdf ⟨rfl, by decide, by decide⟩ hY F (fun _ _ a ns hl _ hS => ⟨a, ns, rfl, hS, hl, fun _ => rfl⟩) fun _ _ _ _ _ z => z
end OW
open PySem PySem.W PyProof.Rows in
set_option maxRecDepth 100000 in
set_option maxHeartbeats 0 in
theorem PySem.Challenge.cw_oneowner_k85_whole_heaps_by_their_words_holds : PySem.Challenge.rw_oneowner_k85_whole_heaps_by_their_words.Holds := by
  w_on; o_law; k_head; (case hw => w_witness2)
  k_fill
  refine OW.walk (l := PySem.Challenge.rw_oneowner_k85_whole_heaps_by_their_words) rfl rfl (fun w h Y => PySem.W.kIn_of Y) ?F
  case F =>
    intro w mg fa h KX G hmg
    refine' OW.all_mk KX G hmg ?aC ?a1 ?i1 ?l1 ?c1 ?k1 ?a2 ?i2 ?l2 ?c2 ?k2 ?a3 ?i3 ?l3 ?c3 ?k3 ?a4 ?i4 ?l4 ?c4 ?k4 ?a5 ?i5 ?l5 ?c5 ?k5 ?a6 ?i6 ?l6 ?c6 ?k6 ?a7 ?i7 ?l7 ?c7 ?k7 ?a8 ?i8 ?l8 ?c8 ?k8 ?a9 ?l9 ?c9 ?k9 ?a10 ?l10 ?c10 ?k10 ?a11 ?l11 ?c11 ?k11 ?a12 ?l12 ?c12 ?k12 ?a13 ?l13 ?c13 ?k13 ?a14 ?l14 ?c14 ?k14 ?a15 ?l15 ?c15 ?k15 ?a16 ?l16 ?c16 ?k16 ?a17 ?l17 ?c17 ?k17 ?a18 ?l18 ?c18 ?k18 ?a19 ?l19 ?c19 ?k19 ?pg ?hd ?po ?sa ?mk ?kc ?nPol ?nUni ?nSiz ?nPie ?nTop ?nLas ?z_len ?z_tuple ?z_sorted ?z_range ?z_max ?z_min ?z_abs ?z_int ?z_all ?z_list
    (case aC => k_is)
    (case a1 => k_is)
    (case i1 => k_is)
    (case l1 => k_is)
    (case c1 => k_is)
    (case k1 => k_is)
    (case a2 => k_is)
    (case i2 => k_is)
    (case l2 => k_is)
    (case c2 => k_is)
    (case k2 => k_is)
    (case a3 => k_is)
    (case i3 => k_is)
    (case l3 => k_is)
    (case c3 => k_is)
    (case k3 => k_is)
    (case a4 => k_is)
    (case i4 => k_is)
    (case l4 => k_is)
    (case c4 => k_is)
    (case k4 => k_is)
    (case a5 => k_is)
    (case i5 => k_is)
    (case l5 => k_is)
    (case c5 => k_is)
    (case k5 => k_is)
    (case a6 => k_is)
    (case i6 => k_is)
    (case l6 => k_is)
    (case c6 => k_is)
    (case k6 => k_is)
    (case a7 => k_is)
    (case i7 => k_is)
    (case l7 => k_is)
    (case c7 => k_is)
    (case k7 => k_is)
    (case a8 => k_is)
    (case i8 => k_is)
    (case l8 => k_is)
    (case c8 => k_is)
    (case k8 => k_is)
    (case a9 => k_is)
    (case l9 => k_is)
    (case c9 => k_is)
    (case k9 => k_is)
    (case a10 => k_is)
    (case l10 => k_is)
    (case c10 => k_is)
    (case k10 => k_is)
    (case a11 => k_is)
    (case l11 => k_is)
    (case c11 => k_is)
    (case k11 => k_is)
    (case a12 => k_is)
    (case l12 => k_is)
    (case c12 => k_is)
    (case k12 => k_is)
    (case a13 => k_is)
    (case l13 => k_is)
    (case c13 => k_is)
    (case k13 => k_is)
    (case a14 => k_is)
    (case l14 => k_is)
    (case c14 => k_is)
    (case k14 => k_is)
    (case a15 => k_is)
    (case l15 => k_is)
    (case c15 => k_is)
    (case k15 => k_is)
    (case a16 => k_is)
    (case l16 => k_is)
    (case c16 => k_is)
    (case k16 => k_is)
    (case a17 => k_is)
    (case l17 => k_is)
    (case c17 => k_is)
    (case k17 => k_is)
    (case a18 => k_is)
    (case l18 => k_is)
    (case c18 => k_is)
    (case k18 => k_is)
    (case a19 => k_is)
    (case l19 => k_is)
    (case c19 => k_is)
    (case k19 => k_is)
    (case pg => k_is)
    (case hd => k_is)
    (case po => k_is)
    (case sa => k_is)
    (case mk => k_is)
    (case kc => k_is)
    (case nPol => k_is)
    (case nUni => k_is)
    (case nSiz => k_is)
    (case nPie => k_is)
    (case nTop => k_is)
    (case nLas => k_is)
    (case z_len => k_is)
    (case z_tuple => k_is)
    (case z_sorted => k_is)
    (case z_range => k_is)
    (case z_max => k_is)
    (case z_min => k_is)
    (case z_abs => k_is)
    (case z_int => k_is)
    (case z_all => k_is)
    (case z_list => k_is)
