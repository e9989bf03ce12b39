import PyProof.Rows.All
import Wide.All
import OpenK.AllK
import Wide.FinOn
import HandS.ForMost
import HandS.Conv
import HandS.DictComp
import HandS.TupAny
import HandS.Style
import HandS.Flow
import HandS.WideBits
import HandS.Walk
import HandS.Deep
import HandS.SortKw
import PySem.Challenge.RW_everlater_k91_whole_reach_is_the_sum
import KE.KDictDisplayH
import KE.SortData
import KE.KDictPairs
import KE.GoesNew
import PyProof.ReprRoads
import PyProof.Rows.InDataRows
import KE.KeyNested
import HandS.WordsDict
import HandS.TupLen
set_option autoImplicit false
namespace K9
section
variable {α β : Type}

/-- a row: each later than all ahead of it -/
def RowR (D : α → Prop) (R : α → α → Prop) (r : List α) : Prop := (∀ x ∈ r, D x) ∧ r.Pairwise (fun a b => R b a)

/-- a family of rows, with all parts of each, of which each of fewer than n marks is lengthened -/
structure Fam (D : α → Prop) (R : α → α → Prop) (n : Nat) (K : List α → Prop) : Prop where
  nil : K []
  row : ∀ r, K r → RowR D R r
  sub : ∀ r s, K r → s.Sublist r → K s
  ext : ∀ r, K r → r.length < n → ∃ x, K (r ++ [x])

def Serves (D : α → Prop) (R : α → α → Prop) (n : Nat) : Prop := ∃ K, Fam D R n K

def IsReach (D : α → Prop) (R : α → α → Prop) (p : Nat) : Prop := Serves D R p ∧ ¬ Serves D R (p + 1)

theorem RowR.sub {D : α → Prop} {R : α → α → Prop} {r s : List α} (h : RowR D R r) (hs : s.Sublist r) : RowR D R s :=
  ⟨fun x hx => h.1 x (hs.subset hx), h.2.sublist hs⟩

theorem rowR_snoc {D : α → Prop} {R : α → α → Prop} {r : List α} {x : α} : RowR D R (r ++ [x]) ↔ RowR D R r ∧ D x ∧ ∀ y ∈ r, R x y := by
  unfold RowR
  rw [List.pairwise_append]
  constructor
  · rintro ⟨h1, h2, _, h4⟩
    exact ⟨⟨fun y hy => h1 y (by simp [hy]), h2⟩, h1 x (by simp), fun y hy => h4 y hy x (by simp)⟩
  · rintro ⟨⟨h1, h2⟩, h3, h4⟩
    refine ⟨fun y hy => ?_, h2, by simp, fun y hy z hz => ?_⟩
    · rcases List.mem_append.mp hy with hy | hy
      · exact h1 y hy
      · have : y = x := by simpa using hy
        rw [this]; exact h3
    · have : z = x := by simpa using hz
      rw [this]; exact h4 y hy

theorem sub_snoc {r s : List α} {x : α} (h : s.Sublist (r ++ [x])) : s.Sublist r ∨ ∃ t, s = t ++ [x] ∧ t.Sublist r := by
  obtain ⟨a, b, rfl, ha, hb⟩ := List.sublist_append_iff.mp h
  rcases List.sublist_cons_iff.mp hb with hb | ⟨c, rfl, hc⟩
  · have : b = [] := List.sublist_nil.mp hb
    subst this
    exact .inl (by simpa using ha)
  · have : c = [] := List.sublist_nil.mp hc
    subst this
    exact .inr ⟨a, rfl, ha⟩

theorem serves_mono {D : α → Prop} {R : α → α → Prop} {n m : Nat} (h : Serves D R n) (hm : m ≤ n) : Serves D R m :=
  let ⟨K, f⟩ := h
  ⟨K, f.nil, f.row, f.sub, fun r hr hl => f.ext r hr (by omega)⟩

theorem serves_zero (D : α → Prop) (R : α → α → Prop) : Serves D R 0 :=
  ⟨fun r => r = [], rfl, fun r h => by subst h; exact ⟨by simp, .nil⟩, fun r s h hs => by subst h; exact List.sublist_nil.mp hs, fun r _ hl => absurd hl (by omega)⟩

theorem serves_map {D : α → Prop} {R : α → α → Prop} {D' : β → Prop} {R' : β → β → Prop} {n : Nat} (f : α → β) (hD : ∀ x, D x → D' (f x)) (hR : ∀ x y, D x → D y → R x y → R' (f x) (f y))
    (h : Serves D R n) : Serves D' R' n := by
  obtain ⟨K, F⟩ := h
  refine ⟨fun s => ∃ r, K r ∧ r.map f = s, ⟨[], F.nil, rfl⟩, ?_, ?_, ?_⟩
  · rintro s ⟨r, hr, rfl⟩
    obtain ⟨h1, h2⟩ := F.row r hr
    refine ⟨fun y hy => ?_, ?_⟩
    · obtain ⟨x, hx, rfl⟩ := List.mem_map.mp hy
      exact hD x (h1 x hx)
    · rw [List.pairwise_map]
      exact h2.imp_of_mem fun {a b} ha hb q => hR b a (h1 b hb) (h1 a ha) q
  · rintro s t ⟨r, hr, rfl⟩ hs
    obtain ⟨r', hr', rfl⟩ := List.sublist_map_iff.mp hs
    exact ⟨r', F.sub r r' hr hr', rfl⟩
  · rintro s ⟨r, hr, rfl⟩ hl
    obtain ⟨x, hx⟩ := F.ext r hr (by simpa using hl)
    exact ⟨f x, _, hx, by simp⟩

/-- by a row of n marks -/
theorem serves_row {D : α → Prop} {R : α → α → Prop} {n : Nat} (h : Serves D R n) : ∃ r : List α, RowR D R r ∧ r.length = n := by
  obtain ⟨K, F⟩ := h
  have all : ∀ k, k ≤ n → ∃ r, K r ∧ r.length = k := by
    intro k
    induction k with
    | zero => intro _; exact ⟨[], F.nil, rfl⟩
    | succ k ih =>
      intro hk
      obtain ⟨r, hr, hl⟩ := ih (by omega)
      obtain ⟨x, hx⟩ := F.ext r hr (by omega)
      exact ⟨_, hx, by simp [hl]⟩
  obtain ⟨r, hr, hl⟩ := all n (Nat.le_refl _)
  exact ⟨r, F.row r hr, hl⟩

/-- unlike marks below m -/
theorem nodup_below {r : List Nat} {m : Nat} (hn : r.Nodup) (hb : ∀ x ∈ r, x < m) : r.length ≤ m := by
  induction m generalizing r with
  | zero =>
    cases r with
    | nil => exact Nat.le_refl _
    | cons x t => exact absurd (hb x (by simp)) (by omega)
  | succ m ih =>
    have h1 : (r.erase m).Nodup := hn.erase m
    have h2 : ∀ x ∈ r.erase m, x < m := fun x hx => by
      have hm := (hn.mem_erase_iff).mp hx
      have := hb x hm.2
      omega
    have h3 := ih h1 h2
    have h4 : r.length ≤ (r.erase m).length + 1 := by
      by_cases hm : m ∈ r
      · rw [List.length_erase_of_mem hm]; omega
      · rw [List.erase_of_not_mem hm]; omega
    omega

theorem serves_below {D : Nat → Prop} {R : Nat → Nat → Prop} {n m : Nat} (hD : ∀ x, D x → x < m) (hi : ∀ x, ¬ R x x) (h : Serves D R n) : n ≤ m := by
  obtain ⟨r, ⟨h1, h2⟩, hl⟩ := serves_row h
  rw [← hl]
  refine nodup_below (h2.imp fun {a b} q e => ?_) fun x hx => hD x (h1 x hx)
  subst e
  exact hi _ q

/-- two rows of a relation that is never both ways: the one's marks among the other's, it is a part of it -/
theorem sub_of_subset {R : α → α → Prop} (as : ∀ x y, R x y → ¬ R y x) : ∀ {l1 l2 : List α}, l1.Pairwise (fun a b => R b a) → l2.Pairwise (fun a b => R b a) → (∀ x ∈ l1, x ∈ l2) → l1.Sublist l2
  | [], l2, _, _, _ => List.nil_sublist _
  | x :: l1, [], _, _, h => absurd (h x (by simp)) (by simp)
  | x :: l1, y :: l2, p1, p2, h => by
    rw [List.pairwise_cons] at p1 p2
    by_cases e : x = y
    · subst e
      refine List.Sublist.cons_cons _ (sub_of_subset as p1.2 p2.2 fun z hz => ?_)
      rcases List.mem_cons.mp (h z (by simp [hz])) with q | q
      · subst q
        have := p1.1 z hz
        exact absurd this (as _ _ this)
      · exact q
    · have hx : x ∈ l2 := by
        rcases List.mem_cons.mp (h x (by simp)) with q | q
        · exact absurd q e
        · exact q
      refine List.Sublist.cons _ (sub_of_subset as (List.pairwise_cons.mpr p1) p2.2 fun z hz => ?_)
      rcases List.mem_cons.mp (h z hz) with q | q
      · subst q
        rcases List.mem_cons.mp hz with q | q
        · exact absurd q.symm e
        · exact absurd (p1.1 z q) (as _ _ (p2.1 x hx))
      · exact q

/-! ### one within the other -/
def DW (DA : α → Prop) (DB : β → Prop) (p : α × β) : Prop := DA p.1 ∧ DB p.2
def RW (RA : α → α → Prop) (RB : β → β → Prop) (p q : α × β) : Prop := RA p.1 q.1 ∨ (p.1 = q.1 ∧ RB p.2 q.2)

open Classical in
/-- the last mark of each outer one -/
noncomputable def pick : List (α × β) → List (α × β)
  | [] => []
  | p :: r => if ∃ q ∈ r, q.1 = p.1 then pick r else p :: pick r

theorem pick_sub : ∀ r : List (α × β), (pick r).Sublist r
  | [] => List.Sublist.slnil
  | p :: r => by
    unfold pick
    split
    · exact (pick_sub r).cons _
    · exact (pick_sub r).cons_cons _
theorem pick_has : ∀ {r : List (α × β)} {p : α × β}, p ∈ r → ∃ q ∈ pick r, q.1 = p.1
  | p0 :: r, p, h => by
    unfold pick
    split
    · rename_i hq
      rcases List.mem_cons.mp h with e | h
      · subst e
        obtain ⟨q, hq, e⟩ := hq
        obtain ⟨q', h1, h2⟩ := pick_has hq
        exact ⟨q', h1, h2.trans e⟩
      · exact pick_has h
    · rcases List.mem_cons.mp h with e | h
      · subst e; exact ⟨p, by simp, rfl⟩
      · obtain ⟨q', h1, h2⟩ := pick_has h
        exact ⟨q', by simp [h1], h2⟩
theorem pick_nodup : ∀ r : List (α × β), ((pick r).map (·.1)).Nodup
  | [] => by simp [pick]
  | p :: r => by
    unfold pick
    split
    · exact pick_nodup r
    · rename_i hq
      rw [List.map_cons, List.nodup_cons]
      refine ⟨fun hm => hq ?_, pick_nodup r⟩
      obtain ⟨q, h1, h2⟩ := List.mem_map.mp hm
      exact ⟨q, (pick_sub r).subset h1, h2⟩

theorem pair_row {RA : α → α → Prop} {RB : β → β → Prop} {s : List (α × β)} (h : s.Pairwise (fun a b => RW RA RB b a)) (hn : (s.map (·.1)).Nodup) : (s.map (·.1)).Pairwise (fun a b => RA b a) := by
  rw [List.pairwise_map]
  have hn' := List.pairwise_map.mp hn
  exact (h.and hn').imp fun {a b} q => by
    rcases q.1 with z | z
    · exact z
    · exact absurd z.1.symm q.2

theorem filter_two [DecidableEq α] (c : α) : ∀ l : List (α × β), (l.filter fun p => decide (p.1 = c)).length + (l.filter fun p => decide (p.1 ≠ c)).length = l.length
  | [] => rfl
  | p :: l => by
    have ih := filter_two c l
    rw [List.filter_cons, List.filter_cons]
    by_cases h : p.1 = c
    · rw [if_pos (by simp [h]), if_neg (by simp [h]), List.length_cons, List.length_cons]; omega
    · rw [if_neg (by simp [h]), if_pos (by simp [h]), List.length_cons, List.length_cons]; omega

/-- as many slots as both, less one -/
theorem serves_within {DA : α → Prop} {RA : α → α → Prop} {DB : β → Prop} {RB : β → β → Prop} {p q : Nat} (as : ∀ x y, RA x y → ¬ RA y x) (hp : 0 < p) (hq : 0 < q)
    (hA : Serves DA RA p) (hB : Serves DB RB q) : Serves (DW DA DB) (RW RA RB) (p + q - 1) := by
  classical
  obtain ⟨KA, FA⟩ := hA
  obtain ⟨KB, FB⟩ := hB
  have irr : ∀ x, ¬ RA x x := fun x h => as x x h h
  obtain ⟨b0, hb0⟩ := FB.ext [] FB.nil (by simpa using hq)
  have hb0 : KB [b0] := by simpa using hb0
  let K : List (α × β) → Prop := fun r => RowR (DW DA DB) (RW RA RB) r ∧ (∀ s : List (α × β), s.Sublist r → (s.map (·.1)).Pairwise (fun a b => RA b a) → KA (s.map (·.1))) ∧ ∀ (c : α) (s : List (α × β)), s.Sublist r → (∀ p ∈ s, p.1 = c) → KB (s.map (·.2))
  refine ⟨K, ?_, fun r h => h.1, ?_, ?_⟩
  · refine ⟨⟨by simp, .nil⟩, fun s hs _ => ?_, fun c s hs _ => ?_⟩
    · rw [List.sublist_nil.mp hs]; exact FA.nil
    · rw [List.sublist_nil.mp hs]; exact FB.nil
  · rintro r s ⟨h1, h2, h3⟩ hs
    exact ⟨h1.sub hs, fun t ht => h2 t (ht.trans hs), fun c t ht => h3 c t (ht.trans hs)⟩
  · rintro r ⟨h1, h2, h3⟩ hl
    rcases List.eq_nil_or_concat r with e | ⟨r0, ⟨a, b⟩, e⟩
    · subst e
      obtain ⟨a0, ha0⟩ := FA.ext [] FA.nil (by simpa using hp)
      have ha0 : KA [a0] := by simpa using ha0
      refine ⟨(a0, b0), ?_, fun s hs _ => ?_, fun c s hs _ => ?_⟩
      · exact ⟨fun x hx => by
          have : x = (a0, b0) := by simpa using hx
          subst this
          exact ⟨(FA.row _ ha0).1 a0 (by simp), (FB.row _ hb0).1 b0 (by simp)⟩, by simp⟩
      · rcases sub_snoc hs with hs | ⟨t, rfl, ht⟩
        · rw [List.sublist_nil.mp hs]; exact FA.nil
        · rw [List.sublist_nil.mp ht]; exact ha0
      · rcases sub_snoc hs with hs | ⟨t, rfl, ht⟩
        · rw [List.sublist_nil.mp hs]; exact FB.nil
        · rw [List.sublist_nil.mp ht]; exact hb0
    · have hlast : (a, b) ∈ r := by rw [e]; simp
      have hfst : ∀ p ∈ r, p.1 ≠ a → RA a p.1 := fun p hpr hne => by
        rw [e, List.concat_eq_append] at hpr h1
        rcases List.mem_append.mp hpr with hpr | hpr
        · have := (rowR_snoc.mp h1).2.2 p hpr
          rcases this with z | z
          · exact z
          · exact absurd z.1.symm hne
        · have : p = (a, b) := by simpa using hpr
          rw [this] at hne
          exact absurd rfl hne
      let blk := r.filter fun p => decide (p.1 = a)
      have hblk : ∀ p ∈ blk, p.1 = a := fun p hpb => by simpa using (List.mem_filter.mp hpb).2
      have hbs : blk.Sublist r := List.filter_sublist
      have hKB : KB (blk.map (·.2)) := h3 a blk hbs hblk
      by_cases hlen : blk.length < q
      · obtain ⟨x, hx⟩ := FB.ext _ hKB (by simpa using hlen)
        have hxr := rowR_snoc.mp (FB.row _ hx)
        refine ⟨(a, x), rowR_snoc.mpr ⟨h1, ⟨(h1.1 (a, b) hlast).1, hxr.2.1⟩, fun p hpr => ?_⟩, fun s hs hpw => ?_, fun c s hs hc => ?_⟩
        · by_cases hpa : p.1 = a
          · refine .inr ⟨hpa.symm, hxr.2.2 p.2 (List.mem_map.mpr ⟨p, ?_, rfl⟩)⟩
            exact List.mem_filter.mpr ⟨hpr, by simpa using hpa⟩
          · exact .inl (hfst p hpr hpa)
        · rcases sub_snoc hs with hs | ⟨t, rfl, ht⟩
          · exact h2 s hs hpw
          · rw [List.map_append, List.map_cons, List.map_nil] at hpw ⊢
            have hta : ∀ z ∈ t.map (·.1), RA a z := fun z hz => (List.pairwise_append.mp hpw).2.2 z hz a (by simp)
            have : (t ++ [(a, b)]).Sublist r := by
              rw [e, List.concat_eq_append] at ht ⊢
              rcases sub_snoc ht with ht | ⟨t', rfl, _⟩
              · exact ht.append (List.Sublist.refl _)
              · exact absurd (hta a (by simp)) (irr a)
            have := h2 _ this (by rw [List.map_append]; exact hpw)
            rw [List.map_append] at this
            exact this
        · rcases sub_snoc hs with hs | ⟨t, rfl, ht⟩
          · exact h3 c s hs hc
          · have hca : a = c := hc (a, x) (by simp)
            subst hca
            rw [List.map_append, List.map_cons, List.map_nil]
            refine FB.sub _ _ hx (List.Sublist.append ?_ (List.Sublist.refl _))
            refine List.Sublist.map _ ?_
            have : t.filter (fun p => decide (p.1 = a)) = t := List.filter_eq_self.mpr fun p hpt => by simpa using hc p (by simp [hpt])
            rw [← this]
            exact ht.filter _
      · have hpk := pick_sub r
        have hnd := pick_nodup r
        have hprow : ((pick r).map (·.1)).Pairwise (fun a b => RA b a) := pair_row (h1.2.sublist hpk) hnd
        have hKA : KA ((pick r).map (·.1)) := h2 _ hpk hprow
        have hle : (pick r).length < p := by
          have e1 := filter_two a (pick r)
          have e2 := filter_two a r
          have e3 : ((pick r).filter fun p => decide (p.1 ≠ a)).length ≤ (r.filter fun p => decide (p.1 ≠ a)).length := (hpk.filter _).length_le
          have e4 : ((pick r).filter fun p => decide (p.1 = a)).length ≤ 1 := by
            have hn2 : (((pick r).filter fun p => decide (p.1 = a)).map (·.1)).Nodup := hnd.sublist (List.Sublist.map _ List.filter_sublist)
            generalize hw : ((pick r).filter fun p => decide (p.1 = a)) = w at hn2
            have hwa : ∀ z ∈ w, z.1 = a := fun z hz => by
              rw [← hw] at hz
              simpa using (List.mem_filter.mp hz).2
            match w, hn2, hwa with
            | [], _, _ => simp
            | [_], _, _ => simp
            | x :: y :: _, hn2, hwa =>
              rw [List.map_cons, List.map_cons, List.nodup_cons] at hn2
              have hx := hwa x (by simp)
              have hy := hwa y (by simp)
              exact absurd (by rw [hx, hy]; simp) hn2.1
          have e5 : (r.filter fun p => decide (p.1 = a)).length = blk.length := rfl
          omega
        obtain ⟨x, hx⟩ := FA.ext _ hKA (by simpa using hle)
        have hxr := rowR_snoc.mp (FA.row _ hx)
        have hxa : ∀ p ∈ r, RA x p.1 := fun p hpr => by
          obtain ⟨q', h1', h2'⟩ := pick_has hpr
          rw [← h2']
          exact hxr.2.2 q'.1 (List.mem_map.mpr ⟨q', h1', rfl⟩)
        refine ⟨(x, b0), rowR_snoc.mpr ⟨h1, ⟨hxr.2.1, (FB.row _ hb0).1 b0 (by simp)⟩, fun p hpr => .inl (hxa p hpr)⟩, fun s hs hpw => ?_, fun c s hs hc => ?_⟩
        · rcases sub_snoc hs with hs | ⟨t, rfl, ht⟩
          · exact h2 s hs hpw
          · rw [List.map_append, List.map_cons, List.map_nil] at hpw ⊢
            refine FA.sub _ _ hx (List.Sublist.append (sub_of_subset as (List.pairwise_append.mp hpw).1 hprow fun z hz => ?_) (List.Sublist.refl _))
            obtain ⟨p', hp', rfl⟩ := List.mem_map.mp hz
            obtain ⟨q', h1', h2'⟩ := pick_has (ht.subset hp')
            exact List.mem_map.mpr ⟨q', h1', h2'⟩
        · rcases sub_snoc hs with hs | ⟨t, rfl, ht⟩
          · exact h3 c s hs hc
          · have hcx : x = c := hc (x, b0) (by simp)
            subst hcx
            have : t = [] := by
              cases t with
              | nil => rfl
              | cons y t =>
                have e1 : y.1 = x := hc y (by simp)
                have e2 := hxa y (ht.subset (by simp))
                rw [e1] at e2
                exact absurd e2 (irr x)
            subst this
            exact hb0

/-- no more -/
theorem not_serves_within {DA : α → Prop} {RA : α → α → Prop} {DB : β → Prop} {RB : β → β → Prop} {p q : Nat} (as : ∀ x y, RA x y → ¬ RA y x) (_hp : 0 < p) (hq : 0 < q)
    (hA : ¬ Serves DA RA (p + 1)) (hB : ¬ Serves DB RB (q + 1)) : ¬ Serves (DW DA DB) (RW RA RB) (p + q) := by
  classical
  rintro ⟨K, F⟩
  have irr : ∀ x, ¬ RA x x := fun x h => as x x h h
  refine hA ⟨fun o => ∃ r, K r ∧ r.map (·.1) = o ∧ o.Pairwise (fun a b => RA b a), ⟨[], F.nil, rfl, .nil⟩, ?_, ?_, ?_⟩
  · rintro o ⟨r, hr, rfl, hpw⟩
    refine ⟨fun x hx => ?_, hpw⟩
    obtain ⟨z, hz, rfl⟩ := List.mem_map.mp hx
    exact ((F.row r hr).1 z hz).1
  · rintro o o' ⟨r, hr, rfl, hpw⟩ hs
    obtain ⟨r', hr', rfl⟩ := List.sublist_map_iff.mp hs
    exact ⟨r', F.sub r r' hr hr', rfl, hpw.sublist (List.Sublist.map _ hr')⟩
  · rintro o ⟨r, hr, rfl, hpw⟩ hl
    rw [List.length_map] at hl
    rcases List.eq_nil_or_concat r with e | ⟨r0, ⟨a, b⟩, e⟩
    · subst e
      obtain ⟨z, hz⟩ := F.ext [] F.nil (by simp; omega)
      exact ⟨z.1, [z], by simpa using hz, by simp, by simp⟩
    · rw [List.concat_eq_append] at e
      subst e
      have step : ∃ t : List β, K (r0 ++ t.map (fun y => (a, y))) ∧ t ≠ [] ∧ t.length ≤ q ∧ ∀ y, ¬ K (r0 ++ (t ++ [y]).map (fun y => (a, y))) := by
        refine Classical.byContradiction fun hno => hB ⟨fun t => K (r0 ++ t.map (fun y => (a, y))), ?_, ?_, ?_, ?_⟩
        · exact F.sub _ _ hr (by simp)
        · intro t ht
          have hrow := (F.row _ ht).sub (List.sublist_append_right _ _)
          refine ⟨fun y hy => (hrow.1 (a, y) (List.mem_map.mpr ⟨y, hy, rfl⟩)).2, ?_⟩
          have := List.pairwise_map.mp hrow.2
          exact this.imp fun {x y} z => by
            rcases z with z | z
            · exact absurd z (irr a)
            · exact z.2
        · intro t t' ht hs
          exact F.sub _ _ ht ((List.Sublist.refl _).append (hs.map _))
        · intro t ht hl'
          by_cases h0 : t = []
          · subst h0
            exact ⟨b, by simpa using hr⟩
          · refine Classical.byContradiction fun hn => hno ⟨t, ht, h0, by omega, fun y hy => hn ⟨y, hy⟩⟩
      obtain ⟨t, ht, h0, hlt, hno⟩ := step
      have hl2 : (r0 ++ t.map (fun y => (a, y))).length < p + q := by
        simp at hl ⊢
        omega
      obtain ⟨⟨x, y⟩, hxy⟩ := F.ext _ ht hl2
      have hne : x ≠ a := fun e => by
        subst e
        refine hno y ?_
        rw [List.map_append, ← List.append_assoc]
        exact hxy
      obtain ⟨b1, t1, rfl⟩ : ∃ b1 t1, t = b1 :: t1 := by
        cases t with
        | nil => exact absurd rfl h0
        | cons b1 t1 => exact ⟨b1, t1, rfl⟩
      have hsub : (r0 ++ [(a, b1)] ++ [(x, y)]).Sublist (r0 ++ (b1 :: t1).map (fun y => (a, y)) ++ [(x, y)]) := by
        refine List.Sublist.append (List.Sublist.append (List.Sublist.refl _) ?_) (List.Sublist.refl _)
        rw [List.map_cons]
        exact List.Sublist.cons_cons _ (List.nil_sublist _)
      have hK := F.sub _ _ hxy hsub
      have hrow := rowR_snoc.mp (F.row _ hK)
      have hxa : RA x a := by
        rcases hrow.2.2 (a, b1) (by simp) with z | z
        · exact z
        · exact absurd z.1 hne
      refine ⟨x, _, hK, by simp, ?_⟩
      refine List.pairwise_append.mpr ⟨hpw, by simp, fun z hz w hw => ?_⟩
      have hw : w = x := by simpa using hw
      subst hw
      rw [List.map_append] at hz hpw
      rcases List.mem_append.mp hz with hz | hz
      · obtain ⟨p', hp', rfl⟩ := List.mem_map.mp hz
        rcases hrow.2.2 p' (List.mem_append_left _ hp') with z | z
        · exact z
        · have h1 : RA a p'.1 := (List.pairwise_append.mp hpw).2.2 p'.1 (List.mem_map.mpr ⟨p', hp', rfl⟩) a (by simp)
          have h2 : RA w p'.1 ∨ True := .inr trivial
          have z1 : w = p'.1 := z.1
          rw [← z1] at h1
          exact absurd hxa (as _ _ h1)
      · have : z = a := by simpa using hz
        rw [this]; exact hxa

theorem reach_within {DA : α → Prop} {RA : α → α → Prop} {DB : β → Prop} {RB : β → β → Prop} {p q : Nat} (as : ∀ x y, RA x y → ¬ RA y x) (hp : 0 < p) (hq : 0 < q)
    (hA : IsReach DA RA p) (hB : IsReach DB RB q) : IsReach (DW DA DB) (RW RA RB) (p + q - 1) := by
  refine ⟨serves_within as hp hq hA.1 hB.1, fun h => not_serves_within as hp hq hA.2 hB.2 ?_⟩
  rw [show p + q - 1 + 1 = p + q by omega] at h
  exact h

theorem reach_unique {D : α → Prop} {R : α → α → Prop} {p q : Nat} (h : IsReach D R p) (h' : IsReach D R q) : p = q := by
  rcases Nat.lt_trichotomy p q with l | l | l
  · exact absurd (serves_mono h'.1 l) h.2
  · exact l
  · exact absurd (serves_mono h.1 l) h'.2
end

/-! ### books -/
section
variable {α : Type} {D : α → Prop} {R : α → α → Prop} {n : Nat}

/-- rows of n - 1 marks, for each of which there is a later mark by which all leavings are there -/
def Closed (D : α → Prop) (R : α → α → Prop) (n : Nat) (S : List α → Prop) : Prop :=
  ∀ r, S r → RowR D R r ∧ r.length + 1 = n ∧ ∃ x, D x ∧ (∀ y ∈ r, R x y) ∧ ∀ i, i < r.length → S (r.eraseIdx i ++ [x])

theorem sub_erase {r t : List α} (h : t.Sublist r) (hl : t.length < r.length) : ∃ i, i < r.length ∧ t.Sublist (r.eraseIdx i) := by
  induction h with
  | slnil => simp at hl
  | @cons l1 l2 a h ih => exact ⟨0, by simp, by simpa using h⟩
  | @cons_cons l1 l2 a h ih =>
    obtain ⟨i, h1, h2⟩ := ih (by simpa using hl)
    exact ⟨i + 1, by simpa using h1, by simpa using h2⟩

theorem serves_of_closed (_hn : 0 < n) {S : List α → Prop} (h : Closed D R n S) {r0 : List α} (h0 : S r0) : Serves D R n := by
  let K : List α → Prop := fun t => ∃ r x, S r ∧ D x ∧ (∀ y ∈ r, R x y) ∧ (∀ i, i < r.length → S (r.eraseIdx i ++ [x])) ∧ t.Sublist (r ++ [x])
  refine ⟨K, ?_, ?_, ?_, ?_⟩
  · obtain ⟨_, _, x, h1, h2, h3⟩ := h r0 h0
    exact ⟨r0, x, h0, h1, h2, h3, List.nil_sublist _⟩
  · rintro t ⟨r, x, hS, h1, h2, h3, hs⟩
    exact (rowR_snoc.mpr ⟨(h r hS).1, h1, h2⟩).sub hs
  · rintro t t' ⟨r, x, hS, h1, h2, h3, hs⟩ hs'
    exact ⟨r, x, hS, h1, h2, h3, hs'.trans hs⟩
  · rintro t ⟨r, x, hS, h1, h2, h3, hs⟩ hl
    have hr := (h r hS).2.1
    have key : ∃ r', S r' ∧ t.Sublist r' := by
      rcases sub_snoc hs with hs | ⟨t', rfl, hs2⟩
      · exact ⟨r, hS, hs⟩
      · obtain ⟨i, hi, hsi⟩ := sub_erase hs2 (by simp at hl; omega)
        exact ⟨_, h3 i hi, hsi.append (List.Sublist.refl _)⟩
    obtain ⟨r', hS', hs'⟩ := key
    obtain ⟨_, _, x', h1', h2', h3'⟩ := h r' hS'
    exact ⟨x', r', x', hS', h1', h2', h3', hs'.append (List.Sublist.refl _)⟩

theorem closed_of_serves (hn : 0 < n) (h : Serves D R n) : ∃ S, Closed D R n S ∧ ∃ r, S r := by
  obtain ⟨K, F⟩ := h
  refine ⟨fun r => K r ∧ r.length + 1 = n, ?_, ?_⟩
  · rintro r ⟨hr, hl⟩
    obtain ⟨x, hx⟩ := F.ext r hr (by omega)
    have hx' := rowR_snoc.mp (F.row _ hx)
    refine ⟨F.row r hr, hl, x, hx'.2.1, hx'.2.2, fun i hi => ⟨F.sub _ _ hx (List.Sublist.append (List.eraseIdx_sublist _ _) (List.Sublist.refl _)), ?_⟩⟩
    rw [List.length_append, List.length_eraseIdx_of_lt hi]
    simp
    omega
  · have all : ∀ k, k < n → ∃ r, K r ∧ r.length = k := by
      intro k
      induction k with
      | zero => intro _; exact ⟨[], F.nil, rfl⟩
      | succ k ih =>
        intro hk
        obtain ⟨r, hr, hl⟩ := ih (by omega)
        obtain ⟨x, hx⟩ := F.ext r hr (by omega)
        exact ⟨_, hx, by simp [hl]⟩
    obtain ⟨r, hr, hl⟩ := all (n - 1) (by omega)
    exact ⟨r, hr, by omega⟩
end
end K9

/-! ### lots, rows, towers -/
namespace K9
abbrev Lt := Nat × List (Nat × Nat)
def lat (L : Lt) (x y : Nat) : Bool := decide ((x, y) ∈ L.2)
def DL (L : Lt) (x : Nat) : Prop := x < L.1
def RL (L : Lt) (x y : Nat) : Prop := (x, y) ∈ L.2
structure LtOk (L : Lt) : Prop where
  below : ∀ p ∈ L.2, p.1 < L.1 ∧ p.2 < L.1
  one : ∀ p ∈ L.2, (p.2, p.1) ∉ L.2
theorem LtOk.as {L : Lt} (h : LtOk L) : ∀ x y, RL L x y → ¬ RL L y x := fun _ _ q => h.one _ q
theorem LtOk.irr {L : Lt} (h : LtOk L) : ∀ x, ¬ RL L x x := fun x q => h.as x x q q
theorem lat_iff {L : Lt} {x y : Nat} : lat L x y = true ↔ RL L x y := by unfold lat RL; exact decide_eq_true_iff

abbrev SrvL (L : Lt) (n : Nat) : Prop := Serves (DL L) (RL L) n

/-- the marks later than all of a row -/
def aboveL (L : Lt) (r : List Nat) : List Nat := (List.range L.1).filter fun x => r.all fun y => lat L x y
theorem mem_above {L : Lt} {r : List Nat} {x : Nat} : x ∈ aboveL L r ↔ DL L x ∧ ∀ y ∈ r, RL L x y := by
  unfold aboveL
  rw [List.mem_filter, List.mem_range, List.all_eq_true]
  exact and_congr Iff.rfl (forall_congr' fun y => imp_congr Iff.rfl lat_iff)
theorem above_nil (L : Lt) : aboveL L [] = List.range L.1 := by
  unfold aboveL
  exact List.filter_eq_self.mpr fun _ _ => rfl
theorem above_snoc (L : Lt) (r : List Nat) (x : Nat) : aboveL L (r ++ [x]) = (aboveL L r).filter fun y => lat L y x := by
  unfold aboveL
  rw [List.filter_filter]
  congr 1
  funext y
  rw [List.all_append, Bool.and_comm]
  simp
theorem above_nodup (L : Lt) (r : List Nat) : (aboveL L r).Nodup := List.nodup_range.sublist List.filter_sublist
theorem above_len (L : Lt) (r : List Nat) : (aboveL L r).length ≤ L.1 := by
  have := (List.filter_sublist (l := List.range L.1) (p := fun x => r.all fun y => lat L x y)).length_le
  rw [List.length_range] at this
  exact this

/-- all rows of k marks -/
def extL (L : Lt) (r : List Nat) : List (List Nat) := (aboveL L r).map fun x => r ++ [x]
def rowsL (L : Lt) : Nat → List (List Nat)
  | 0 => [[]]
  | k + 1 => (rowsL L k).flatMap (extL L)
theorem mem_rows {L : Lt} : ∀ {k : Nat} {r : List Nat}, r ∈ rowsL L k ↔ RowR (DL L) (RL L) r ∧ r.length = k
  | 0, r => by
    constructor
    · intro h
      have : r = [] := by simpa [rowsL] using h
      subst this
      exact ⟨⟨by simp, .nil⟩, rfl⟩
    · rintro ⟨_, h⟩
      simp [rowsL, List.length_eq_zero_iff.mp h]
  | k + 1, r => by
    unfold rowsL extL
    rw [List.mem_flatMap]
    constructor
    · rintro ⟨r0, h0, h⟩
      obtain ⟨x, hx, rfl⟩ := List.mem_map.mp h
      obtain ⟨h1, h2⟩ := mem_rows.mp h0
      obtain ⟨h3, h4⟩ := mem_above.mp hx
      exact ⟨rowR_snoc.mpr ⟨h1, h3, h4⟩, by simp [h2]⟩
    · rintro ⟨h1, h2⟩
      rcases List.eq_nil_or_concat r with e | ⟨r0, x, e⟩
      · subst e; simp at h2
      · rw [List.concat_eq_append] at e
        subst e
        obtain ⟨h3, h4, h5⟩ := rowR_snoc.mp h1
        exact ⟨r0, mem_rows.mpr ⟨h3, by simpa using h2⟩, List.mem_map.mpr ⟨x, mem_above.mpr ⟨h4, h5⟩, rfl⟩⟩
theorem snoc_inj {r s : List Nat} {x y : Nat} (h : r ++ [x] = s ++ [y]) : r = s ∧ x = y := by
  have := List.append_inj' h rfl
  exact ⟨this.1, by simpa using this.2⟩
theorem ext_nodup (L : Lt) (r : List Nat) : (extL L r).Nodup :=
  List.Pairwise.map _ (fun _ _ h e => h (snoc_inj e).2) (above_nodup L r)
theorem rows_nodup (L : Lt) : ∀ k, (rowsL L k).Nodup
  | 0 => by simp [rowsL]
  | k + 1 => by
    unfold rowsL
    rw [List.flatMap_def]
    refine List.pairwise_flatten.mpr ⟨?_, ?_⟩
    · intro l hl
      obtain ⟨r, _, rfl⟩ := List.mem_map.mp hl
      exact ext_nodup L r
    · rw [List.pairwise_map]
      refine (rows_nodup L k).imp fun {r s} h x hx y hy e => ?_
      subst e
      obtain ⟨a, _, e1⟩ := List.mem_map.mp hx
      obtain ⟨b, _, e2⟩ := List.mem_map.mp hy
      exact h (snoc_inj (e1.trans e2.symm)).1
theorem row_nodup {L : Lt} (ok : LtOk L) {r : List Nat} (h : RowR (DL L) (RL L) r) : r.Nodup :=
  h.2.imp fun {a b} q e => by
    subst e
    exact ok.irr _ q
theorem row_le {L : Lt} (ok : LtOk L) {r : List Nat} (h : RowR (DL L) (RL L) r) : r.length ≤ L.1 := nodup_below (row_nodup ok h) h.1

/-- the leavings of a row by a mark -/
def leav (r : List Nat) (x : Nat) : List (List Nat) := (List.range r.length).map fun i => r.take i ++ r.drop (i + 1) ++ [x]
theorem mem_leav {r s : List Nat} {x : Nat} : s ∈ leav r x ↔ ∃ i, i < r.length ∧ s = r.eraseIdx i ++ [x] := by
  unfold leav
  rw [List.mem_map]
  constructor
  · rintro ⟨i, hi, rfl⟩
    exact ⟨i, List.mem_range.mp hi, by rw [List.eraseIdx_eq_take_drop_succ]⟩
  · rintro ⟨i, hi, rfl⟩
    exact ⟨i, List.mem_range.mpr hi, by rw [List.eraseIdx_eq_take_drop_succ]⟩
theorem leav_rows {L : Lt} {k : Nat} {r s : List Nat} {x : Nat} (hr : r ∈ rowsL L k) (hx : x ∈ aboveL L r) (hs : s ∈ leav r x) : s ∈ rowsL L k := by
  obtain ⟨i, hi, rfl⟩ := mem_leav.mp hs
  obtain ⟨h1, h2⟩ := mem_rows.mp hr
  obtain ⟨h3, h4⟩ := mem_above.mp hx
  refine mem_rows.mpr ⟨rowR_snoc.mpr ⟨h1.sub (List.eraseIdx_sublist _ _), h3, fun y hy => h4 y ((List.eraseIdx_sublist _ _).subset hy)⟩, ?_⟩
  rw [List.length_append, List.length_eraseIdx_of_lt hi]
  simp
  omega

/-- some mark leaves rows of S alone -/
def Stays (L : Lt) (S : List Nat → Prop) (r : List Nat) : Prop := ∃ x ∈ aboveL L r, ∀ s ∈ leav r x, S s
theorem Stays.mono {L : Lt} {S S' : List Nat → Prop} {r : List Nat} (h : Stays L S r) (hs : ∀ s, S s → S' s) : Stays L S' r :=
  let ⟨x, hx, q⟩ := h
  ⟨x, hx, fun s h => hs s (q s h)⟩
/-- closed, by the rows' list -/
def ClosedL (L : Lt) (k : Nat) (S : List Nat → Prop) : Prop := ∀ r, S r → r ∈ rowsL L k ∧ Stays L S r
theorem closed_iff {L : Lt} {k : Nat} {S : List Nat → Prop} : ClosedL L k S ↔ Closed (DL L) (RL L) (k + 1) S := by
  constructor
  · intro h r hr
    obtain ⟨h1, x, hx, h2⟩ := h r hr
    obtain ⟨h3, h4⟩ := mem_rows.mp h1
    obtain ⟨h5, h6⟩ := mem_above.mp hx
    exact ⟨h3, by omega, x, h5, h6, fun i hi => h2 _ (mem_leav.mpr ⟨i, hi, rfl⟩)⟩
  · intro h r hr
    obtain ⟨h1, h2, x, h3, h4, h5⟩ := h r hr
    refine ⟨mem_rows.mpr ⟨h1, by omega⟩, x, mem_above.mpr ⟨h3, h4⟩, fun s hs => ?_⟩
    obtain ⟨i, hi, rfl⟩ := mem_leav.mp hs
    exact h5 i hi
/-- the greatest closed set says whether it serves -/
theorem serves_iff {L : Lt} {k : Nat} {S : List Nat → Prop} (hc : ClosedL L k S) (hg : ∀ S', ClosedL L k S' → ∀ r, S' r → S r) : SrvL L (k + 1) ↔ ∃ r, S r := by
  constructor
  · intro h
    obtain ⟨S', h1, r, hr⟩ := closed_of_serves (Nat.succ_pos k) h
    exact ⟨r, hg S' (closed_iff.mpr h1) r hr⟩
  · rintro ⟨r, hr⟩
    exact serves_of_closed (Nat.succ_pos k) (closed_iff.mp hc) hr

/-! the reach -/
theorem serves_one {α : Type} {D : α → Prop} {R : α → α → Prop} {x : α} (h : D x) : Serves D R 1 := by
  refine ⟨fun r => r = [] ∨ r = [x], .inl rfl, ?_, ?_, ?_⟩
  · rintro r (rfl | rfl)
    · exact ⟨by simp, .nil⟩
    · exact ⟨fun y hy => by
        have : y = x := by simpa using hy
        rw [this]; exact h, by simp⟩
  · rintro r s (rfl | rfl) hs
    · exact .inl (List.sublist_nil.mp hs)
    · rcases sub_snoc (r := []) hs with hs | ⟨t, rfl, ht⟩
      · exact .inl (List.sublist_nil.mp hs)
      · rw [List.sublist_nil.mp ht]; exact .inr rfl
  · rintro r (rfl | rfl) hl
    · exact ⟨x, .inr rfl⟩
    · exact absurd hl (by simp)
theorem reach_ex {α : Type} {D : α → Prop} {R : α → α → Prop} {m : Nat} (h : ∀ n, Serves D R n → n ≤ m) : ∃ p, IsReach D R p := by
  have : ∀ k p, p + k = m + 1 → Serves D R p → ∃ p, IsReach D R p := by
    intro k
    induction k with
    | zero => intro p e hs; exact absurd (h p hs) (by omega)
    | succ k ih =>
      intro p e hs
      by_cases hp : Serves D R (p + 1)
      · exact ih (p + 1) (by omega) hp
      · exact ⟨p, hs, hp⟩
  exact this (m + 1) 0 (by omega) (serves_zero D R)
theorem reachL_ex {L : Lt} (ok : LtOk L) : ∃ p, IsReach (DL L) (RL L) p := reach_ex (m := L.1) fun _ h => serves_below (fun _ q => q) ok.irr h
open Classical in
noncomputable def rho (L : Lt) : Nat := if h : ∃ p, IsReach (DL L) (RL L) p then Classical.choose h else 0
theorem rho_is {L : Lt} (ok : LtOk L) : IsReach (DL L) (RL L) (rho L) := by
  unfold rho
  rw [dif_pos (reachL_ex ok)]
  exact Classical.choose_spec (reachL_ex ok)
theorem rho_le {L : Lt} (ok : LtOk L) : rho L ≤ L.1 := serves_below (fun _ q => q) ok.irr (rho_is ok).1
theorem rho_pos {L : Lt} (ok : LtOk L) (hm : 0 < L.1) : 0 < rho L := by
  have h1 : SrvL L 1 := serves_one (x := 0) hm
  have h2 := rho_is ok
  rcases Nat.eq_zero_or_pos (rho L) with e | e
  · rw [e] at h2
    exact absurd h1 h2.2
  · exact e
/-- what a loop from 0 to five finds -/
theorem rho_found {L : Lt} (ok : LtOk L) (h5 : rho L ≤ 5) {f : Nat} (hf : SrvL L f) (hs : 5 ≤ f ∨ ¬ SrvL L (f + 1)) : f = rho L := by
  have h := rho_is ok
  rcases hs with hs | hs
  · rcases Nat.lt_or_ge (rho L) f with l | l
    · exact absurd (serves_mono hf l) h.2
    · omega
  · exact reach_unique ⟨hf, hs⟩ h

/-! towers -/
def MarkT : List Lt → List Nat → Prop
  | [], [] => True
  | L :: T, x :: xs => x < L.1 ∧ MarkT T xs
  | _, _ => False
def latT : List Lt → List Nat → List Nat → Bool
  | L :: T, x :: xs, y :: ys => if x = y then latT T xs ys else lat L x y
  | _, _, _ => false
def RT (T : List Lt) (x y : List Nat) : Prop := latT T x y = true
theorem reach_tower : ∀ {T : List Lt}, (∀ L ∈ T, LtOk L ∧ 0 < L.1) → ∃ p, IsReach (MarkT T) (RT T) p ∧ 0 < p ∧ (p : Int) = 1 + (T.map fun L => (rho L : Int) - 1).sum
  | [], _ => by
    refine ⟨1, ⟨serves_one (x := []) trivial, fun h => ?_⟩, by omega, rfl⟩
    obtain ⟨r, ⟨h1, h2⟩, hl⟩ := serves_row h
    match r, h1, h2, hl with
    | [a, b], h1, h2, _ =>
      have := (List.pairwise_cons.mp h2).1 b (by simp)
      unfold RT latT at this
      cases this
  | L :: T, h => by
    obtain ⟨q, hq, hq0, e⟩ := reach_tower (T := T) fun L' hL => h L' (by simp [hL])
    obtain ⟨okL, hm⟩ := h L (by simp)
    have hw := reach_within okL.as (rho_pos okL hm) hq0 (rho_is okL) hq
    have hrp := rho_pos okL hm
    refine ⟨rho L + q - 1, ⟨?_, fun hn => hw.2 ?_⟩, by omega, ?_⟩
    · refine serves_map (fun p : Nat × List Nat => p.1 :: p.2) (fun p hp => hp) (fun p p' _ _ hr => ?_) hw.1
      show latT (L :: T) (p.1 :: p.2) (p'.1 :: p'.2) = true
      unfold latT
      rcases hr with z | ⟨z1, z2⟩
      · rw [if_neg fun e => okL.irr p.1 (by rw [← e] at z; exact z)]
        exact lat_iff.mpr z
      · rw [if_pos z1]; exact z2
    · refine serves_map (fun l : List Nat => (l.headD 0, l.tail)) (fun l hl => ?_) (fun l l' hl hl' hr => ?_) hn
      · cases l with
        | nil => exact hl.elim
        | cons x xs => exact hl
      · cases l with
        | nil => exact hl.elim
        | cons x xs => cases l' with
          | nil => exact hl'.elim
          | cons y ys =>
            have hr : latT (L :: T) (x :: xs) (y :: ys) = true := hr
            unfold latT at hr
            by_cases e : x = y
            · rw [if_pos e] at hr; exact .inr ⟨e, hr⟩
            · rw [if_neg e] at hr; exact .inl (lat_iff.mp hr)
    · rw [List.map_cons, List.sum_cons]
      omega

/-- a lot of all marks of a tower -/
structure AsOne (T : List Lt) (W : Lt) (ev : List (List Nat)) : Prop where
  size : W.1 = ev.length
  nodup : ev.Nodup
  all : ∀ x, x ∈ ev ↔ MarkT T x
  rel : ∀ x y, (x, y) ∈ W.2 ↔ x < ev.length ∧ y < ev.length ∧ latT T (ev.getD x []) (ev.getD y []) = true

theorem getD_mem {ev : List (List Nat)} {x : Nat} (h : x < ev.length) : ev.getD x [] ∈ ev := by
  rw [List.getD_eq_getElem?_getD, List.getElem?_eq_getElem h]
  exact List.getElem_mem h
theorem latT_irr {T : List Lt} (h : ∀ L ∈ T, LtOk L ∧ 0 < L.1) : ∀ x y, MarkT T x → MarkT T y → latT T x y = true → latT T y x = true → False := by
  induction T with
  | nil => intro x y _ _ q _; unfold latT at q; cases q
  | cons L T ih =>
    intro x y hx hy q q'
    cases x with
    | nil => exact hx.elim
    | cons a x => cases y with
      | nil => exact hy.elim
      | cons b y =>
        unfold latT at q q'
        by_cases e : a = b
        · rw [if_pos e] at q
          rw [if_pos e.symm] at q'
          exact ih (fun L' hL => h L' (by simp [hL])) x y hx.2 hy.2 q q'
        · rw [if_neg e] at q
          rw [if_neg fun z => e z.symm] at q'
          exact (h L (by simp)).1.as _ _ (lat_iff.mp q) (lat_iff.mp q')
theorem AsOne.ok {T : List Lt} {W : Lt} {ev : List (List Nat)} (h : ∀ L ∈ T, LtOk L ∧ 0 < L.1) (a : AsOne T W ev) : LtOk W := by
  refine ⟨fun p hp => ?_, fun p hp hq => ?_⟩
  · obtain ⟨h1, h2, _⟩ := (a.rel p.1 p.2).mp hp
    rw [a.size]
    exact ⟨h1, h2⟩
  · obtain ⟨h1, h2, h3⟩ := (a.rel p.1 p.2).mp hp
    obtain ⟨_, _, h4⟩ := (a.rel p.2 p.1).mp hq
    exact latT_irr h _ _ ((a.all _).mp (getD_mem h1)) ((a.all _).mp (getD_mem h2)) h3 h4
theorem AsOne.rho {T : List Lt} {W : Lt} {ev : List (List Nat)} (h : ∀ L ∈ T, LtOk L ∧ 0 < L.1) (a : AsOne T W ev) : (rho W : Int) = 1 + (T.map fun L => (rho L : Int) - 1).sum := by
  obtain ⟨p, hp, _, e⟩ := reach_tower h
  rw [← e]
  have hw := rho_is (a.ok h)
  have gi : ∀ x, x ∈ ev → ev.idxOf x < ev.length ∧ ev.getD (ev.idxOf x) [] = x := fun x hx => by
    have hl := List.idxOf_lt_length_iff.mpr hx
    refine ⟨hl, ?_⟩
    rw [List.getD_eq_getElem?_getD, List.getElem?_eq_getElem hl]
    exact List.getElem_idxOf hl
  have to : ∀ n, SrvL W n → Serves (MarkT T) (RT T) n := fun n hs => by
    refine serves_map (fun i => ev.getD i []) (fun i hi => ?_) (fun i j hi hj hr => ?_) hs
    · have hi : i < W.1 := hi
      rw [a.size] at hi
      exact (a.all _).mp (getD_mem hi)
    · exact ((a.rel i j).mp hr).2.2
  have back : ∀ n, Serves (MarkT T) (RT T) n → SrvL W n := fun n hs => by
    refine serves_map (fun x => ev.idxOf x) (fun x hx => ?_) (fun x y hx hy hr => ?_) hs
    · show ev.idxOf x < W.1
      rw [a.size]
      exact (gi x ((a.all x).mpr hx)).1
    · obtain ⟨g1, g2⟩ := gi x ((a.all x).mpr hx)
      obtain ⟨g3, g4⟩ := gi y ((a.all y).mpr hy)
      refine (a.rel _ _).mpr ⟨g1, g3, ?_⟩
      rw [g2, g4]
      exact hr
  have : K9.rho W = p := reach_unique hw ⟨back p hp.1, fun q => hp.2 (to _ q)⟩
  rw [this]

/-- the sum's bound -/
theorem sum_bound {T : List Lt} (h : ∀ L ∈ T, LtOk L ∧ 0 < L.1 ∧ L.1 ≤ 4) (hl : T.length ≤ 3) (hp : (T.map (·.1)).foldl (· * ·) 1 ≤ 9) : 1 + (T.map fun L => (rho L : Int) - 1).sum ≤ 5 := by
  have key : ∀ a b c : Fin 5, 0 < a.val → 0 < b.val → 0 < c.val → a.val * b.val * c.val ≤ 9 → a.val + b.val + c.val ≤ 7 := by decide
  have kk : ∀ a b c : Nat, 0 < a → a ≤ 4 → 0 < b → b ≤ 4 → 0 < c → c ≤ 4 → a * b * c ≤ 9 → a + b + c ≤ 7 := fun a b c a1 a2 b1 b2 c1 c2 q =>
    key ⟨a, by omega⟩ ⟨b, by omega⟩ ⟨c, by omega⟩ a1 b1 c1 q
  have r : ∀ L ∈ T, (rho L : Int) ≤ L.1 := fun L hL => by
    have := rho_le (h L hL).1
    omega
  match T, h, hl, hp, r with
  | [], _, _, _, _ => decide
  | [A], h, _, hp, r =>
    have ha := h A (by simp)
    have ra := r A (by simp)
    simp
    omega
  | [A, B], h, _, hp, r =>
    have ha := h A (by simp)
    have ra := r A (by simp)
    have hb := h B (by simp)
    have rb := r B (by simp)
    have := kk A.1 B.1 1 ha.2.1 ha.2.2 hb.2.1 hb.2.2 (by omega) (by omega) (by simpa using hp)
    simp
    omega
  | [A, B, C], h, _, hp, r =>
    have ha := h A (by simp)
    have ra := r A (by simp)
    have hb := h B (by simp)
    have rb := r B (by simp)
    have hc := h C (by simp)
    have rc := r C (by simp)
    have := kk A.1 B.1 C.1 ha.2.1 ha.2.2 hb.2.1 hb.2.2 hc.2.1 hc.2.2 (by simpa using hp)
    simp
    omega
end K9

set_option Elab.async false
set_option linter.all false
set_option maxRecDepth 100000
namespace K9
open PySem PySem.Spec PyProof.Rows L2
/-! ### the text -/
def topS (i : Nat) : Stmt := PySem.Challenge.pw_everlater_k91_whole_reach_is_the_sum.main.body.getD i (.Pass ⟨0, 0, 0, 0⟩)
abbrev sLater : Stmt := topS 2
abbrev sLevels : Stmt := topS 3
abbrev sParts : Stmt := topS 4
abbrev sPeeled : Stmt := topS 5
abbrev sBook : Stmt := topS 6
abbrev sServes : Stmt := topS 7
abbrev sReach : Stmt := topS 8
abbrev sReaches : Stmt := topS 10
abbrev sReachIn : Stmt := topS 11
abbrev sPot : Stmt := topS 13
abbrev sTake : Stmt := topS 14
abbrev sLot : Stmt := topS 17
abbrev sUps : Stmt := topS 19
abbrev sRows : Stmt := topS 20
abbrev sStays : Stmt := topS 21
abbrev sLBook : Stmt := topS 22
abbrev sLReach : Stmt := topS 23
abbrev sLLater : Stmt := topS 24
abbrev sMarks : Stmt := topS 26
abbrev sDrawn : Stmt := topS 27
abbrev sAsOne : Stmt := topS 28
abbrev sRight : Stmt := topS 29
abbrev sLaw : Stmt := topS 30
/-! ### values -/
abbrev iV (n : Nat) : V := .int (n : Int)
def rV (r : List Nat) : List V := r.map iV
def kN (n : Nat) : Key := Sum.inl (n : Int)
theorem kN_inj {a b : Nat} (h : kN a = kN b) : a = b := by
  have h : (Sum.inl (a : Int) : Key) = Sum.inl (b : Int) := h
  have := Sum.inl.inj h
  omega
def rk (r : List Nat) : List Key := r.map kN
theorem rk_kV (r : List Nat) : (rk r).map kV = rV r := by
  unfold rk rV
  rw [List.map_map]
  rfl
theorem rk_inj {r s : List Nat} (h : rk r = rk s) : r = s := by
  unfold rk at h
  exact (List.map_inj_right (fun a b e => kN_inj e)).mp h
theorem rV_len (r : List Nat) : (rV r).length = r.length := by unfold rV; rw [List.length_map]
theorem rV_get {r : List Nat} {i x : Nat} (h : r[i]? = some x) : (rV r)[i]? = some (iV x) := by
  unfold rV
  rw [List.getElem?_map, h]
  rfl
/-! ### heaps -/
theorem same_upd {H : Hp} {p : Addr} {o : HO} (h : H p = none) : Same H (upd H p o) := fun b x e => by
  rw [upd_ne (ne_of_none e h)]
  exact e
/-- all but W is as it was -/
def But (W : List Addr) (H H' : Hp) : Prop := ∀ b o, b ∉ W → H b = some o → H' b = some o
theorem But.refl (W : List Addr) (H : Hp) : But W H H := fun _ _ _ h => h
theorem But.trans {W : List Addr} {H H1 H2 : Hp} (a : But W H H1) (b : But W H1 H2) : But W H H2 := fun c o hc h => b c o hc (a c o hc h)
theorem But.same {W : List Addr} {H H1 H2 : Hp} (a : But W H H1) (b : Same H1 H2) : But W H H2 := fun c o hc h => b c o (a c o hc h)
theorem But.of {W : List Addr} {H H1 : Hp} (a : Same H H1) : But W H H1 := fun c o _ h => a c o h
theorem But.upd {W : List Addr} {H H1 : Hp} {p : Addr} {o : HO} (a : But W H H1) (hp : p ∈ W) : But W H (L2.upd H1 p o) := fun c u hc h => by
  have hne : c ≠ p := fun e => hc (by rw [e]; exact hp)
  rw [upd_ne hne]
  exact a c u hc h
theorem But.new {W : List Addr} {H H1 : Hp} {p : Addr} {o : HO} (a : But W H H1) (hp : H p = none) : But W H (L2.upd H1 p o) := fun c u hc h => by
  rw [upd_ne (ne_of_none h hp)]
  exact a c u hc h
/-- what was new is written: all that stood stands -/
theorem Same.new {H H1 : Hp} {p : Addr} {o : HO} (a : Same H H1) (hp : H p = none) : Same H (L2.upd H1 p o) := fun c u h => by
  rw [upd_ne (ne_of_none h hp)]
  exact a c u h
theorem sl_le {n : Nat} (h : n ≤ 1000000) : n ≤ sizeLine := Nat.le_trans h (by decide)
theorem sl_lt {n : Nat} (h : n ≤ 1000000) : n < sizeLine := Nat.lt_of_le_of_lt h (by decide)
theorem yesI {σ : L2.St} {H : Hp} {A B : Hp → Prop} (h : A H) : tYes σ H (fun b H3 => if b = true then A H3 else B H3) := by
  show (if true = true then A H else B H)
  rw [if_pos rfl]
  exact h
/-! ### lots -/
def PairsAt (H : Hp) (ts : List Addr) (ps : List (Nat × Nat)) : Prop := Paired (fun t (p : Nat × Nat) => H t = some (.tup [iV p.1, iV p.2])) ts ps
def LotAt (H : Hp) (a : Addr) (L : Lt) : Prop := ∃ b ts, H a = some (.tup [iV L.1, .ref b]) ∧ H b = some (.tup (ts.map V.ref)) ∧ PairsAt H ts L.2
theorem PairsAt.same {H H' : Hp} {ts : List Addr} {ps : List (Nat × Nat)} (h : PairsAt H ts ps) (s : Same H H') : PairsAt H' ts ps := Paired.mapP h fun _ _ q => s _ _ q
theorem LotAt.same {H H' : Hp} {a : Addr} {L : Lt} (h : LotAt H a L) (s : Same H H') : LotAt H' a L :=
  let ⟨b, ts, h1, h2, h3⟩ := h
  ⟨b, ts, s _ _ h1, s _ _ h2, h3.same s⟩
theorem pairs_at {H : Hp} {ts : List Addr} {ps : List (Nat × Nat)} (h : PairsAt H ts ps) {i : Nat} {p : Nat × Nat} (e : ps[i]? = some p) : ∃ t, ts[i]? = some t ∧ H t = some (.tup [iV p.1, iV p.2]) := by
  unfold PairsAt at h
  induction h generalizing i with
  | nil => simp at e
  | cons h1 h2 ih =>
    cases i with
    | zero =>
      have e := Option.some.inj e
      subst e
      exact ⟨_, rfl, h1⟩
    | succ i => simpa using ih (by simpa using e)
theorem pairs_len {H : Hp} {ts : List Addr} {ps : List (Nat × Nat)} (h : PairsAt H ts ps) : ts.length = ps.length := Paired.length h
structure LF (L : Lt) : Prop where
  ok : LtOk L
  few : L.1 ≤ 9
  len : L.2.length ≤ 1000
/-- for each mark a dict of those that are later -/
def UpsAt (H : Hp) (a : Addr) (L : Lt) : Prop := ∃ us : List Addr, us.length = L.1 ∧ H a = some (.lst (us.map V.ref)) ∧ ∀ y u, us[y]? = some u → ∃ kvs : List (Key × V), H u = some (.dK kvs) ∧ ∀ x : Nat, (valV kvs (kN x)).isSome = lat L x y
theorem UpsAt.same {H H' : Hp} {a : Addr} {L : Lt} (h : UpsAt H a L) (s : Same H H') : UpsAt H' a L :=
  let ⟨us, h1, h2, h3⟩ := h
  ⟨us, h1, s _ _ h2, fun y u e => let ⟨kvs, q1, q2⟩ := h3 y u e; ⟨kvs, s _ _ q1, q2⟩⟩
end K9

set_option Elab.async false
set_option linter.all false
set_option maxRecDepth 100000
namespace K9
open PySem PySem.Spec PyProof.Rows L2
/-! ### a dict with tuple keys is written by the machine -/
section
variable {X : Cx} {pins : List (Addr × Obj)} {σ : L2.St} {H : Hp} {s : Shared}
theorem dtAll {P : Program} {w : World} {H : Hp} {h : Heap} {kvs : List (List Key × V)} {xs : List (List Key × Addr × Value)} {d : Addr} (z : kvs.length ≤ sizeLine) (hd : (d == sysModules) = false) (rel : KT H kvs xs)
    (dd : h.DictOfH (tupleKind (mixKind P w)) d xs) (ne : ∀ b ys, H b = some (.tup ys) → b ≠ d) : ObjOk P w (upd H d (.dT kvs)) h d (.dT kvs) := by
  obtain ⟨o, es, ep, h1, h2, h3, h4, _, h5⟩ := dd
  exact ⟨z, hd, xs, rel.keeps fun b ys e => by rw [upd_ne (ne b ys e)]; exact e, o, es, ep, h1, h2, h3, h4, h5⟩
/-- d[k] = v as a comprehension does it, keys tuples -/
theorem dT_set {E : Value → Shared → Prop} {D b : Addr} {kvs : List (List Key × V)} {k : List Key} {v : V} {r : Value} {Q : Unit → Shared → Prop} (hu : X.A.units < cLine) (I : Inv X pins σ H s) (hD : H D = some (.dT kvs)) (hz : kvs.length < sizeLine)
    (hb : H b = some (.tup (k.map kV))) (rv : RelV v r) (q : ∀ s', Inv X pins σ (upd H D (.dT (putK kvs k v))) s' → Q () s') : wpAny (model X.prog X.w) X.A (dictSet D (.ref b) r) Q E s := by
  obtain ⟨z, hd, xs, rel, dd⟩ := dt_of I.hok hD
  have hzx : xs.length ≤ sizeLine := by rw [← Paired.length rel]; exact z
  have hl : (putK kvs k v).length ≤ sizeLine := by have := length_putK kvs k v; omega
  refine wpAny_dictSet_heap (hsz := hzx) (knd := tupleKind (mixKind X.prog X.w)) hu (key_of I.hok hb) dd fun h' dd' hs => q _ ?_
  have he : ∃ o, h'.get? D = some o := let ⟨o, _, _, ho, _⟩ := dd'; ⟨o, ho⟩
  exact d_write I (by rw [hD]; exact True.intro) hs he (dtAll hl hd (rel.put k hb rv) dd' fun c ys e => ne_of e hD (fun z => nomatch z))
/-- {k: v}, the key a tuple -/
def tDict1 (tk tv : TE) : TE := fun σ H Q => ∀ p, H p = none → tk σ (upd H p (.dT [])) fun x H1 => tv σ H1 fun y H2 => H2 p = some (.dT []) ∧ ∃ (b : Addr) (k : List Key), x = .ref b ∧ H2 b = some (.tup (k.map kV)) ∧ Q (.ref p) (upd H2 p (.dT [(k, y)]))
theorem pe_dict1 {k v : Expr} {tk tv : TE} {pos : Pos} (hu : X.A.units < cLine) (hk : PE X k tk) (hv : PE X v tv) : PE X (.Dict [some k] [v] pos) (tDict1 tk tv) := by
  refine ⟨fun pins s σ H Q I q => ?_⟩
  have hn := I.hok.fresh (Nat.le_refl s.heap.objs.size)
  have I1 := I.laid (a := s.heap.objs.size) (o := .dT []) (h' := s.heap.push { cls := .type "dict", data := .dict #[] }) (t' := s.toks) (fun _ _ q => Heap.get?_push_of_some _ q) (Nat.le_refl _) (dt_empty s.heap I.big)
  rw [arm_eval_Dict, zip_pairTrees [some k] [v] X.env pos rfl rfl, dictDisplay_pairs (pairTrees [some k] [v] X.env pos) (List.cons_ne_nil _ _) (by show 1 < 17; decide)]
  refine wpAny_bind (wpAny_standAt (wpAny_bind (wpAny_subDictH (knd := tupleKind (mixKind X.prog X.w)) hu (by show 1 ≤ 15; decide) ?_)))
  refine pairTrees_cons_walk (thn (hk.run pins _ σ _ _ I1 (q _ hn)) fun u s2 ⟨x, H2, I2, rx, q2⟩ => thn (hv.run pins s2 σ H2 _ I2 q2) fun r s3 ⟨y, H3, I3, ry, eD, b, kk, ex, eb, q3⟩ => pairTrees_nil_walk ?_)
  subst ex
  obtain rfl : u = Value.ref b := rx
  obtain ⟨z, hd, xs0, rel, dd⟩ := dt_of I3.hok eD
  cases rel
  refine ⟨[(kk, b, r)], ⟨rfl, rfl, key_of I3.hok eb, trivial⟩, dd, fun h' tk dd' hs => wpAny_pure ?_⟩
  have he : ∃ o, h'.get? s.heap.objs.size = some o := let ⟨o, _, _, ho, _⟩ := dd'; ⟨o, ho⟩
  exact ⟨.ref s.heap.objs.size, _, d_write I3 (by rw [eD]; exact True.intro) hs he (dtAll (by show 1 ≤ sizeLine; decide) hd (.cons ⟨rfl, eb, ry⟩ .nil) dd' fun c ys e => ne_of e eD (fun z => nomatch z)), rfl, q3⟩
/-! ### for k, v in d.items(), keys tuples -/
theorem frzTV {d : Addr} {o : Obj} {kvs : List (List Key × V)} (I : Inv X pins σ H s) (h : H d = some (.frz o (.dT kvs))) :
    (d == sysModules) = false ∧ s.heap.get? d = some o ∧ o.ExactDict ∧ ∃ (es : Array DictEntry) (ep : Nat), o.data = .dict es ep ∧ es.size = kvs.length ∧
      ∀ (i : Nat) (k : List Key) (v : V), kvs[i]? = some (k, v) → ∃ (hi : i < es.size) (q : Addr), es[i].key = .ref q ∧ H q = some (.tup (k.map kV)) ∧ RelV v es[i].val := by
  obtain ⟨hd, z, hs, xs, pr, o', es, ep, ho, hx, hdt, he, _⟩ := I.hok d _ h
  rw [hd] at ho
  cases ho
  have l1 : es.size = xs.length := size_of_entries he
  have l2 : kvs.length = xs.length := Paired.length pr
  refine ⟨hs, hd, hx, es, ep, hdt, by omega, fun i k v e => ?_⟩
  obtain ⟨b, hb, e1, e2, e3⟩ := paired_get pr e
  have q := entry_at he i
  rw [hb] at q
  have hi : i < es.size := by
    have := (List.getElem?_eq_some_iff.mp e).1
    omega
  rw [Array.getElem?_eq_getElem hi] at q
  have q := Option.some.inj q
  refine ⟨hi, b.2.1, ?_, e2, ?_⟩
  · rw [q]; rfl
  · rw [q]; exact e3
end
/-- the pairs of the locked dict at d, each a new tuple -/
def ItiT (d : Addr) (o : Obj) (kvs : List (List Key × V)) : It :=
  ⟨fun i H => H d = some (.frz o (.dT kvs)) ∧ i < kvs.length, fun i H x H' => ∃ T k v q, kvs[i]? = some (k, v) ∧ x = .ref T ∧ H T = none ∧ H q = some (.tup (k.map kV)) ∧ H' = upd H T (.tup [.ref q, v]), fun i H => H d = some (.frz o (.dT kvs)) ∧ kvs.length ≤ i⟩
section
variable {P : Program} {w : World} {K : PySem.W.Frag} {d : Addr} {o : Obj} {es : Array DictEntry} {ep : Nat}
theorem turn_itemsT {kvs : List (List Key × V)} {elts : List Expr} {kk : Nat} {tpos : Pos} (it : Addr) (hod : o.data = .dict es ep) :
    Turn P w K (.Tuple elts kk tpos) (ItiT d o kvs) [it] it (fun i h => ∃ ok ov, IsItemIter h it d i es.size ep ok ov) where
  mem := by simp
  obj := fun i h st b hb => by
    have e : b = it := by simpa using hb
    subst e
    obtain ⟨ok, ov, z⟩ := st
    exact ⟨_, z, fun v z => nomatch z⟩
  keep := fun i h h' st k => let ⟨ok, ov, z⟩ := st; ⟨ok, ov, k it (by simp) _ z⟩
  item := by
    intro X hP hw hK hc i pins s σ H E I hf st hg
    subst hP hw hK
    obtain ⟨hd, hi⟩ := hg
    obtain ⟨hs, hgd, hx, es', ep', hdt, hsz, ent⟩ := frzTV I hd
    obtain ⟨rfl, rfl⟩ := dict_ep hod hdt
    obtain ⟨⟨k, v⟩, hkv⟩ : ∃ p, kvs[i]? = some p := ⟨kvs[i], List.getElem?_eq_getElem hi⟩
    obtain ⟨hlt', q, hkey, hq, hval⟩ := ent i k v hkv
    obtain ⟨ok, ov, he⟩ := st
    have hlt : it < s.heap.objs.size := Heap.lt_size he
    refine wpAny_pyNext_items_item_raw he ⟨o, hgd, hx, hdt⟩ hlt' fun h' ho hT hz hk => ?_
    refine ⟨_, rfl, wpAny_letOwnedTupleGo_items (s := { s with heap := h' }) ho fun h'' he' sb => ?_⟩
    have hT2 := (sb.2 s.heap.objs.size (Nat.ne_of_gt hlt)).trans hT
    rw [hkey] at hT2
    have new : ObjOk X.prog X.w (upd H s.heap.objs.size (.tup [.ref q, v])) h'' s.heap.objs.size (.tup [.ref q, v]) :=
      ⟨by show 2 ≤ sizeLine; decide, [.ref q, es'[i].val], .cons rfl (.cons hval .nil), ⟨_, hT2, rfl, _, rfl⟩⟩
    have I1 : Inv X pins σ (upd H s.heap.objs.size (.tup [.ref q, v])) { s with heap := h'' } :=
      I.turnedNew (t' := s.toks) (ch := [it]) (fun b ob hb e => (sb.2 b (by simpa using hb)).trans (hk b ob (by simpa using hb) e)) hf (Nat.le_refl _) new
    refine ⟨.ref s.heap.objs.size, _, I1, rfl, ⟨_, k, v, q, hkv, rfl, I.hok.fresh (Nat.le_refl _), hq, rfl⟩, ⟨_, _, he'⟩, fun b hb => ?_⟩
    have e : b = it := by simpa using hb
    rw [e, upd_ne (Nat.ne_of_lt hlt)]
    exact (hf it (by simp)).1
  done := by
    intro X hP hw hK hc i pins s σ H E I hf st hg
    subst hP hw hK
    obtain ⟨hd, hi⟩ := hg
    obtain ⟨f0, f1, f2, f3, f4, f5⟩ := hf it (by simp)
    obtain ⟨hs, hgd, hx, es', ep', hdt, hsz, ent⟩ := frzTV I hd
    obtain ⟨rfl, rfl⟩ := dict_ep hod hdt
    obtain ⟨ok, ov, he⟩ := st
    exact wpAny_pyNext_items_end_raw (I.ok.hd hc) he ⟨o, hgd, hx, hdt⟩ (by omega) fun h' eb => ⟨rfl, I.turned (t' := s.toks) (fun b ob hb e => eb b ob hb e) f0 f1 f3 f4 f5⟩
  self := fun A i s Q E st h => let ⟨_, _, z⟩ := st; PySem.W.kcp_self z h
end
def iItemsT (td : TE) : TI := fun σ H R => td σ H fun x H1 => ∃ d o kvs, x = .ref d ∧ H1 d = some (.frz o (.dT kvs)) ∧ R (ItiT d o kvs) H1
section
variable {X : Cx} {tg e : Expr} {td : TE} {apos cpos : Pos}
theorem pi_itemsT {elts : List Expr} {kk : Nat} {tpos : Pos} (he : PE X e td) (hbase : attributeBase e "items" X.env (eval e X.env) = eval e X.env := by rfl) (hline : (apos.endLine == cpos.line) = true := by rfl) :
    PI X (.Tuple elts kk tpos) (.Call (.Attribute e "items" apos) [] [] cpos) (iItemsT td) := by
  refine ⟨fun pins s σ H R I h => ?_⟩
  refine wpAny_Call_method (T := "dict") (id := "dict.items") hbase rfl hline F.plainAttrs_dict F.slot_dict_items F.type_dict_items (thn (he.run pins s σ H _ I h) fun u s1 ⟨x, H1, I1, rx, d, o, kvs, ex, hd, q⟩ => ?_)
  subst ex
  obtain rfl : u = Value.ref d := rx
  obtain ⟨hs, hgd, hx, es, ep, hdt, hsz, ent⟩ := frzTV I1 hd
  have raw : s1.heap.DictRaw d es ep := ⟨o, hgd, hx, hdt⟩
  refine ⟨raw.typeIs, fun b q => ?_, ?_⟩
  · cases q
    exact ⟨o, hgd, hx.2.1⟩
  have k2 : ∀ b ob, s1.heap.get? b = some ob → (s1.heap.push { cls := .type "dict_items", data := .fields #[.ref d] }).get? b = some ob := fun b ob q => Heap.get?_push_of_some _ q
  have I2 : Inv X pins σ H1 { s1 with heap := s1.heap.push { cls := .type "dict_items", data := .fields #[.ref d] } } := I1.kept (t' := s1.toks) k2
  have fin : wpAny (model X.prog X.w) X.A (pyIter (.ref s1.heap.objs.size)) (PIE X pins σ (.Tuple elts kk tpos) R) X.xe { s1 with heap := s1.heap.push { cls := .type "dict_items", data := .fields #[.ref d] } } :=
    wpAny_pyIter_items_raw (d := d) ⟨_, Heap.get?_push_size _ rfl, rfl, rfl⟩ (raw.at fun _ z => k2 _ _ z) (pi_one (tk := s1.toks) I2 _ (turn_itemsT _ hdt) ⟨.none, .none, Heap.get?_push_size _ rfl⟩ q)
  show wpAny _ _ (callWith cpos (.builtin "dict.items") [.ref d] [] []) _ X.xe s1
  exact method_meetsIn F.slot_dict_items F.entry_dict_items rfl (PySem.evalArgs_none ⟨rfl, raw.typeIs, F.args_dict_items_1 _, _, meets_dict_items_raw d hs, ⟨es, ep, raw⟩, fin⟩)
/-- .. walked: Pv by the turn, the slots and the heap -/
theorem for_itemsT {d : Addr} {o : Obj} {kvs : List (List Key × V)} {g : TG} {tb : TS} {D : Ends} {σ : L2.St} {H : Hp} (Pv : Nat → L2.St → Hp → Prop) (h0 : Pv 0 σ H) (hl : ∀ i σ H, i ≤ kvs.length → Pv i σ H → H d = some (.frz o (.dT kvs)))
    (hs : ∀ i k v q T σ H, kvs[i]? = some (k, v) → Pv i σ H → H q = some (.tup (k.map kV)) → H T = none → g (.ref T) σ (upd H T (.tup [.ref q, v])) fun σ2 H2 => tb { D with nx := Pv (i + 1), ct := Pv (i + 1), bk := D.nx } σ2 H2) (hd : ∀ σ H, Pv kvs.length σ H → D.nx σ H) :
    ∃ W : Nat → Nat → L2.St → Hp → Prop, (∃ m, W 0 m σ H) ∧ ∀ i m σ H, W i m σ H →
      ((ItiT d o kvs).stop i H ∧ D.nx σ H) ∨ ((ItiT d o kvs).go i H ∧ ∃ N : L2.St → Hp → Prop, (∀ σ' H', N σ' H' → ∃ m', m' < m ∧ W (i + 1) m' σ' H') ∧ ∀ x H', (ItiT d o kvs).yld i H x H' → g x σ H' fun σ2 H2 => tb { D with nx := N, ct := N, bk := D.nx } σ2 H2) := by
  refine ⟨fun i m σ H => m = kvs.length - i ∧ i ≤ kvs.length ∧ Pv i σ H, ⟨kvs.length, by simp, Nat.zero_le _, h0⟩, ?_⟩
  rintro i m σ H ⟨rfl, hi, p⟩
  have q := hl i σ H hi p
  by_cases hlt : i < kvs.length
  · refine .inr ⟨⟨q, hlt⟩, Pv (i + 1), fun σ' H' p' => ⟨kvs.length - (i + 1), by omega, rfl, hlt, p'⟩, fun x H' y => ?_⟩
    obtain ⟨T, k, v, b, h1, rfl, h2, h3, rfl⟩ := y
    exact hs i k v b T σ H h1 p h3 h2
  · have e : i = kvs.length := by omega
    subst e
    exact .inl ⟨⟨q, Nat.le_refl _⟩, hd σ H p⟩
end
end K9

set_option Elab.async false
set_option linter.all false
set_option maxRecDepth 100000
namespace K9
open PySem PySem.Spec PyProof.Rows L2
/-! ### a dict comprehension whose keys are tuples -/
section
variable {X : Cx}
/-- {k: v for target in iter if ..}, keys tuples: D the new dict -/
def tDcT (wi : TI) (g : TG) (tt : TT) (tk tv : TE) (vs : List Nat) : TE := fun σ H Q => wi σ H fun J H1 => ∀ D, H1 D = none → ∃ W : Nat → Nat → Hp → Prop, (∃ m, W 0 m (upd H1 D (.dT []))) ∧ ∀ i m H, W i m H →
  (J.stop i H ∧ Q (.ref D) H) ∨ (J.go i H ∧ ∃ Nx : Hp → Prop, (∀ H', Nx H' → ∃ m', m' < m ∧ W (i + 1) m' H') ∧ ∀ x H', J.yld i H x H' → g x (wipe σ vs) H' fun σ2 H2 => wipe σ2 vs = wipe σ vs ∧ tt σ2 H2 fun b H3 =>
    if b = true then tk σ2 H3 fun y H4 => tv σ2 H4 fun z H5 => ∃ (kvs : List (List Key × V)) (k : List Key) (t : Addr), y = .ref t ∧ H5 t = some (.tup (k.map kV)) ∧ H5 D = some (.dT kvs) ∧ kvs.length < sizeLine ∧ Nx (upd H5 D (.dT (putK kvs k z))) else Nx H3)
theorem dcT_run {pins : List (Addr × Obj)} {s : Shared} {σ : L2.St} {H : Hp} {Q : VK} {kx vx tg iter : Expr} {ifs : List Expr} {scope : Scope} {own : List (Str × Nat)} {pos pos' : Pos} {wi : TI} {g : TG} {tt : TT} {tk tv : TE} {use : Option (Value → Sem Unit)} {Qf : Value → Shared → Prop}
    (hu : X.A.units < cLine) (hc : X.calm = true) (hN : X.N.Nodup) (I : Inv X pins σ H s) (hi : PI X tg iter wi) (ok : BlkOk X.N X.env.scope scope own)
    (hg : ∀ (s : Shared) (H : Hp) (C : Addr) (cl : List (Str × Addr)) (fp : List Addr), PG (X.blk s H scope (compEnvC scope cl C X.env) fp) tg g)
    (ht : ∀ (s : Shared) (H : Hp) (C : Addr) (cl : List (Str × Addr)) (fp : List Addr), PTs (X.blk s H scope (compEnvC scope cl C X.env) fp) ifs tt)
    (hk : ∀ (s : Shared) (H : Hp) (C : Addr) (cl : List (Str × Addr)) (fp : List Addr), PE (X.blk s H scope (compEnvC scope cl C X.env) fp) kx tk)
    (he : ∀ (s : Shared) (H : Hp) (C : Addr) (cl : List (Str × Addr)) (fp : List Addr), PE (X.blk s H scope (compEnvC scope cl C X.env) fp) vx tv) (hs : ∀ x, foldedSetIterable iter X.env x = pure x)
    (hw : tDcT wi g tt tk tv (own.map (·.2)) σ H Q)
    (fin : ∀ D C s' m H', Inv X pins σ H' s' → Q (.ref D) H' → s'.heap.Ns C m → FpOk X pins H' C → compPost (model X.prog X.w) X.A X.xe use Qf (.ref D) C (.ok .next) s') :
    wpAny (model X.prog X.w) X.A (comprehension (.DictComp kx vx [⟨tg, iter, ifs, 0⟩] scope pos) scope X.env pos' newDict false (eval iter X.env) use) Qf X.xe s := by
  have clo : ∀ y ∈ scope.names, y.2 = .free → ∃ c, X.env.cells.lookup y.1 = some c := fun y hy e => (ok.free y hy e).elim (fun k => I.ok.has _ (.inl k)) (fun k => I.ok.has _ (.inr k))
  refine wpAny_comprehension_free (use := use) rfl hs (closure_ok clo) ok.kind (fun y hy e => by rw [ok.uniq y hy, e]) (thn (hi.run pins s σ H _ I hw) fun xv s1 hx => thn hx fun itv s2 h2 => ?_)
  obtain ⟨it, fp, tn, J, H2, e0, I2, T, st2, f2, q⟩ := h2
  subst e0
  refine wpAny_newObj_type (newEnv_comp ?_)
  generalize hD : s2.heap.objs.size = D
  have free0 : H2 D = none := I2.hok.fresh (Nat.le_of_eq hD)
  obtain ⟨W, ⟨m0, w0⟩, turn⟩ := q D free0
  -- the new dict
  generalize es3 : ({ s2 with heap := s2.heap.push { cls := .type "dict", data := .dict #[] } } : Shared) = s3
  have push3 : s3.heap = s2.heap.push { cls := .type "dict", data := .dict #[] } := by rw [← es3]
  have I3 : Inv X pins σ (upd H2 D (.dT [])) s3 := by
    rw [← es3]
    refine I2.laid (t' := s2.toks) (fun b o z => Heap.get?_push_of_some _ z) (Nat.le_of_eq hD) ?_
    rw [← hD]
    exact dt_empty s2.heap I2.big
  have below : ∀ b ∈ fp, b < s2.heap.objs.size := fun b hb => let ⟨_, z, _⟩ := T.obj _ _ st2 b hb; Heap.lt_size z
  have f3 : ∀ b ∈ fp, FpOk X pins (upd H2 D (.dT [])) b ∧ b < s3.heap.objs.size := fun b hb => by
    have hlt := below b hb
    have hbD : b ≠ D := by rw [← hD]; exact Nat.ne_of_lt hlt
    refine ⟨⟨by rw [upd_ne hbD]; exact (f2 b hb).1, (f2 b hb).2⟩, ?_⟩
    rw [push3, Heap.size_push]
    exact Nat.lt_succ_of_lt hlt
  have st3 : tn 0 s3.heap := T.keep _ _ _ st2 fun b _ o z => by rw [push3]; exact Heap.get?_push_of_some _ z
  have I4 := block_start I3 ok hN f3
  have pg := hg s3 (upd H2 D (.dT [])) s3.heap.objs.size (cellsFrom (s3.heap.objs.size + 1) scope.names (cloFrom X.env.cells scope.names [])) fp
  have pt := ht s3 (upd H2 D (.dT [])) s3.heap.objs.size (cellsFrom (s3.heap.objs.size + 1) scope.names (cloFrom X.env.cells scope.names [])) fp
  have pk := hk s3 (upd H2 D (.dT [])) s3.heap.objs.size (cellsFrom (s3.heap.objs.size + 1) scope.names (cloFrom X.env.cells scope.names [])) fp
  have pe := he s3 (upd H2 D (.dT [])) s3.heap.objs.size (cellsFrom (s3.heap.objs.size + 1) scope.names (cloFrom X.env.cells scope.names [])) fp
  show codeAny _ _ (.compStart (.DictComp kx vx [⟨tg, iter, ifs, 0⟩] scope pos) 0 (.ref it) (.ref D) (compEnvC scope (cellsFrom (s3.heap.objs.size + 1) scope.names (cloFrom X.env.cells scope.names [])) s3.heap.objs.size X.env)) (compPost (model X.prog X.w) X.A X.xe use Qf (.ref D) s3.heap.objs.size)
    { s3 with heap := pushCells (s3.heap.push { cls := .type "dict", data := .dict #[] }) scope.names }
  have nofp : ∀ b ∈ fp, (upd H2 D (.dT [])) b = none := fun b hb => (f3 b hb).1.1
  generalize ece : compEnvC scope (cellsFrom (s3.heap.objs.size + 1) scope.names (cloFrom X.env.cells scope.names [])) s3.heap.objs.size X.env = ce at I4 pg pt pk pe ⊢
  have cL : ce.locals = s3.heap.objs.size := by subst ece; rfl
  generalize eH3 : upd H2 D (.dT []) = H3 at I3 I4 pg pt pk pe w0 nofp f3
  generalize es4 : ({ s3 with heap := pushCells (s3.heap.push { cls := .type "dict", data := .dict #[] }) scope.names } : Shared) = s4 at I4 ⊢
  have st4 : tn 0 s4.heap := T.keep _ _ _ st3 fun b _ o z => by rw [← es4]; exact pushCells_keeps _ _ _ _ (Heap.get?_push_of_some _ z)
  have stat : ∀ {σ' : L2.St} {H' : Hp} {s' : Shared}, Inv (X.blk s3 H3 scope ce fp) [] σ' H' s' → (∀ b ∈ fp, H' b = none) → ∀ b ∈ fp, FpOk (X.blk s3 H3 scope ce fp) [] H' b := fun {σ' H' s'} J' hn b hb =>
    ⟨hn b hb, (J'.ok.exf b hb).1, J'.ok.exfs b hb, .inl hb, fun x c z => (J'.ok.exf b hb).2 x c z, fun p hp => absurd (show p ∈ ([] : List (Addr × Obj)) ++ [] from hp) (by simp)⟩
  have loop : codeAny (model X.prog X.w) X.A (.compLoop (.DictComp kx vx [⟨tg, iter, ifs, 0⟩] scope pos) 0 (.ref it) (.ref D) ce) (compPost (model X.prog X.w) X.A X.xe use Qf (.ref D) s3.heap.objs.size) s4 := by
    refine compLoop_anyD (fun n s' => ∃ i H', Inv (X.blk s3 H3 scope ce fp) [] (wipe σ (own.map (·.2))) H' s' ∧ tn i s'.heap ∧ (∀ b ∈ fp, H' b = none) ∧ W i n H') ?_ m0 ⟨0, H3, I4, st4, nofp, w0⟩
    rintro n s5 ⟨i, H5, I5, st5, n5, w5⟩
    rcases turn i n H5 w5 with ⟨stop, done⟩ | ⟨go, Nx, hNx, step⟩
    · refine thnF (T.done (X.blk s3 H3 scope ce fp) rfl rfl rfl hc i [] s5 _ H5 (fun _ _ => False) I5 (stat I5 n5) st5 stop) fun r s6 ⟨er, I6⟩ => ?_
      subst er
      have I7 : Inv X pins σ H5 s6 := I3.call' (ch := fp) I6.os I6.base I6.hok I6.bare fun b hb => ⟨(f3 b hb).1.2.2.2.1, (f3 b hb).1.2.1, (f3 b hb).1.2.2.2.2.1, (f3 b hb).1.2.2.2.2.2⟩
      have nC : H5 s3.heap.objs.size = none := by
        have z : H5 ce.locals = none := I6.free
        rw [cL] at z
        exact z
      obtain ⟨m, hn, _⟩ := I6.loc
      have hn : s6.heap.Ns ce.locals m := hn
      rw [cL] at hn
      exact fin D s3.heap.objs.size s6 m H5 I7 done hn (I3.fpOk (Nat.le_refl _) nC)
    · refine thnF (T.item (X.blk s3 H3 scope ce fp) rfl rfl rfl hc i [] s5 _ H5 (fun _ _ => False) I5 (stat I5 n5) st5 go) fun r s6 ⟨u, er, h6⟩ => ?_
      subst er
      refine thnF h6 fun _ s7 ⟨x, H7, I7, r7, y7, st7, n7⟩ => ?_
      refine thnF (pg.run _ s7 _ H7 x u _ (I7.pinned (stat I7 n7) (T.obj _ _ st7)) r7 (step x H7 y7)) fun _ s8 ⟨σ8, H8, I8, hw8, q8⟩ => ?_
      refine thnF (pt.run _ s8 σ8 H8 _ I8 q8) fun b s9 ⟨H9, I9, q9⟩ => ?_
      have back : ∀ {s' : Shared} {H' : Hp}, Inv (X.blk s3 H3 scope ce fp) ([] ++ pinsAt fp s7.heap) σ8 H' s' → Nx H' →
          ∃ m, m < n ∧ ∃ i H', Inv (X.blk s3 H3 scope ce fp) [] (wipe σ (own.map (·.2))) H' s' ∧ tn i s'.heap ∧ (∀ b ∈ fp, H' b = none) ∧ W i m H' := fun {s' H'} J' nx => by
        obtain ⟨m', hm, w'⟩ := hNx H' nx
        have pin' : ∀ b ∈ fp, ∀ o, s7.heap.get? b = some o → s'.heap.get? b = some o ∧ H' b = none := fun b hb o z =>
          let z' := J'.pin (b, o) (List.mem_append_right _ (List.mem_append_right _ (mem_pinsAt hb z)))
          ⟨z'.1, z'.2.1⟩
        have hl : (wipe σ (own.map (·.2))).length = σ8.length := by rw [← hw8, wipe_length]
        refine ⟨m', hm, i + 1, H', (J'.unpinned (pins := [])).weak hl (fun j v z => ?_), T.keep _ _ _ st7 fun b hb o z => (pin' b hb o z).1, fun b hb => ?_, w'⟩
        · rw [← hw8] at z
          exact (wipe_some z).1
        · obtain ⟨o, z, _⟩ := T.obj _ _ st7 b hb
          exact (pin' b hb o z).2
      cases b with
      | false =>
        simp only [Bool.false_eq_true, if_false] at q9 ⊢
        exact back I9 q9
      | true =>
        simp only [if_true] at q9 ⊢
        refine thnF (pk.run _ s9 σ8 H9 _ I9 q9) fun z s10 ⟨yk, H10, I10, r10, q10⟩ => thnF (pe.run _ s10 σ8 H10 _ I10 q10) fun z2 s11 ⟨yv, H11, I11, r11, kvs, k, t, ek, et, hD11, hz11, nx⟩ => ?_
        subst ek
        obtain rfl : z = Value.ref t := r10
        have I11' : Inv (X.blk s3 H3 scope ce fp) ([] ++ pinsAt fp s7.heap) σ8 H11 s11 := I11
        exact dT_set (X := X.blk s3 H3 scope ce fp) hu I11' hD11 hz11 et r11 fun s12 I12 => back I12 nx
  exact codeAny_compStart_dict loop (T.self X.A 0 _ _ _ st4 loop)
theorem pe_dcT {kx vx tg iter : Expr} {ifs : List Expr} {scope : Scope} {own : List (Str × Nat)} {pos : Pos} {wi : TI} {g : TG} {tt : TT} {tk tv : TE} (hu : X.A.units < cLine) (hc : X.calm = true) (hN : X.N.Nodup) (hi : PI X tg iter wi) (ok : BlkOk X.N X.env.scope scope own)
    (hg : ∀ (s : Shared) (H : Hp) (C : Addr) (cl : List (Str × Addr)) (fp : List Addr), PG (X.blk s H scope (compEnvC scope cl C X.env) fp) tg g)
    (ht : ∀ (s : Shared) (H : Hp) (C : Addr) (cl : List (Str × Addr)) (fp : List Addr), PTs (X.blk s H scope (compEnvC scope cl C X.env) fp) ifs tt)
    (hk : ∀ (s : Shared) (H : Hp) (C : Addr) (cl : List (Str × Addr)) (fp : List Addr), PE (X.blk s H scope (compEnvC scope cl C X.env) fp) kx tk)
    (he : ∀ (s : Shared) (H : Hp) (C : Addr) (cl : List (Str × Addr)) (fp : List Addr), PE (X.blk s H scope (compEnvC scope cl C X.env) fp) vx tv) (hs : ∀ x, foldedSetIterable iter X.env x = pure x := by intro _; rfl) :
    PE X (.DictComp kx vx [⟨tg, iter, ifs, 0⟩] scope pos) (tDcT wi g tt tk tv (own.map (·.2))) := by
  refine ⟨fun pins s σ H Q I hw => ?_⟩
  rw [arm_eval_DictComp]
  refine dcT_run hu hc hN I hi ok hg ht hk he hs hw fun D C s' m H' I' q hn f => ⟨m, hn, fun h'' sb => ?_⟩
  obtain ⟨f0, f1, f2, f3, f4, f5⟩ := f
  exact ⟨.ref D, H', I'.turned (t' := s'.toks) (fun b o hb z => (sb.2 b hb).trans z) f0 f1 f3 f4 f5, rfl, q⟩
end
end K9

set_option Elab.async false
set_option linter.all false
set_option maxRecDepth 100000
namespace K9
open PySem PySem.Spec PyProof.Rows L2
/-! ### a dict against an empty one -/
section
variable {prog : Program} {w : World} {A : Around} {E : Value → Shared → Prop} {s : Shared} {a b : Addr} {es : Array DictEntry} {ep ep' : Nat}
theorem same_raw0 {nm : String} {Q : Bool → Shared → Prop} (ha : (a == sysModules) = false) (hb : (b == sysModules) = false) (da : s.heap.DictRaw a es ep) (db : s.heap.DictRaw b #[] ep') (h : Q (es.size == 0) s) :
    wpAny (model prog w) A (Builtin.Dict.samePairs nm a b) Q E s := by
  obtain ⟨oa, hoa, _, hda⟩ := da
  obtain ⟨ob, hob, _, hdb⟩ := db
  unfold Builtin.Dict.samePairs Builtin.Dict.showsAll
  rw [if_neg (by rw [ha]; exact Bool.false_ne_true), if_neg (by rw [hb]; exact Bool.false_ne_true)]
  refine wpAny_bind (wpAny_pure (wpAny_bind (wpAny_pure (wpAny_bind (wpAny_dictEntries hoa hda ?_)))))
  dsimp only
  refine wpAny_bind (wpAny_dictEntries hob hdb ?_)
  by_cases hz : es.size = 0
  · have e0 : es = #[] := Array.size_eq_zero_iff.mp hz
    subst e0
    rw [if_neg (by simp)]
    refine wpAny_bind (wpAny_dictEpoch hoa hda ?_)
    refine wpAny_bind ?_
    rw [Std.Legacy.Range.forIn_eq_forIn_range']
    show wpAny _ _ (forIn (List.range' 0 0 1) _ _) _ _ _
    rw [List.range'_zero, List.forIn_nil]
    exact wpAny_pure (wpAny_pure h)
  · rw [if_pos (by simpa using hz)]
    have hf : (es.size == 0) = false := by simpa using hz
    rw [hf] at h
    exact wpAny_bind (wpAny_rule (wpAny_pure h))
theorem eq_raw0 {Q : Value → Shared → Prop} (ha : (a == sysModules) = false) (hb : (b == sysModules) = false) (da : s.heap.DictRaw a es ep) (db : s.heap.DictRaw b #[] ep') (hu : A.units < cLine) (h : Q (.bool (es.size == 0)) s) :
    wpAny (model prog w) A (compareOp .Eq (.ref a) (.ref b)) Q E s := by
  refine wpAny_richCompare_same_room (op := .Eq) da.typeIs db.typeIs PySem.F.slot_dict_eq (wpAny_call_entry PySem.F.slot_dict_eq da.typeIs PySem.F.entry_dict_eq ?_ (PySem.F.args_dict_eq_2 _ _)) hu
  show wpAny _ _ (Builtin.Dict.dictSlotArgs "__eq__" ⟨[.ref a, .ref b], []⟩ >>= _) _ _ s
  refine wpAny_bind ?_
  unfold Builtin.Dict.dictSlotArgs
  refine wpAny_bind (wpAny_notOrdered_dict da.typeIs ?_)
  show wpAny _ _ (pure (Value.ref a, Value.ref b)) _ _ s
  refine wpAny_pure (wpAny_bind (wpAny_isInstance (T := "dict") db.typeIs PySem.F.sub_dict_dict ?_))
  simp only [Bool.not_true, Bool.false_eq_true, if_false]
  refine wpAny_bind (wpAny_pure (wpAny_bind (wpAny_pure (wpAny_bind (same_raw0 ha hb da db ?_)))))
  refine wpAny_pure ⟨_, rfl, ?_, ?_⟩
  · exact fun x => nomatch x
  · simpa using h
theorem ne_raw0 {Q : Value → Shared → Prop} (ha : (a == sysModules) = false) (hb : (b == sysModules) = false) (da : s.heap.DictRaw a es ep) (db : s.heap.DictRaw b #[] ep') (hu : A.units < cLine) (h : Q (.bool (!(es.size == 0))) s) :
    wpAny (model prog w) A (compareOp .NotEq (.ref a) (.ref b)) Q E s := by
  refine wpAny_richCompare_same_room (op := .NotEq) da.typeIs db.typeIs PySem.F.slot_dict_ne (wpAny_call_entry PySem.F.slot_dict_ne da.typeIs PySem.F.entry_dict_ne ?_ (PySem.F.args_dict_ne_2 _ _)) hu
  show wpAny _ _ (Builtin.Dict.dictSlotArgs "__ne__" ⟨[.ref a, .ref b], []⟩ >>= _) _ _ s
  refine wpAny_bind ?_
  unfold Builtin.Dict.dictSlotArgs
  refine wpAny_bind (wpAny_notOrdered_dict da.typeIs ?_)
  show wpAny _ _ (pure (Value.ref a, Value.ref b)) _ _ s
  refine wpAny_pure (wpAny_bind (wpAny_isInstance (T := "dict") db.typeIs PySem.F.sub_dict_dict ?_))
  simp only [Bool.not_true, Bool.false_eq_true, if_false]
  refine wpAny_bind (wpAny_pure (wpAny_bind (wpAny_pure (wpAny_bind (same_raw0 ha hb da db ?_)))))
  refine wpAny_pure ⟨_, rfl, ?_, ?_⟩
  · exact fun x => nomatch x
  · simpa using h
end
/-- the dict at a has n entries -/
def DLen (H : Hp) (a : Addr) (n : Nat) : Prop := (∃ kvs, Rd H a (.dK kvs) ∧ kvs.length = n) ∨ ∃ kvs, Rd H a (.dT kvs) ∧ kvs.length = n
section
variable {X : Cx} {pins : List (Addr × Obj)} {σ : L2.St} {H : Hp} {s : Shared}
theorem dlen_raw {a : Addr} {n : Nat} (I : Inv X pins σ H s) (h : DLen H a n) : (a == sysModules) = false ∧ ∃ es ep, s.heap.DictRaw a es ep ∧ es.size = n := by
  rcases h with ⟨kvs, h, e⟩ | ⟨kvs, h, e⟩
  · obtain ⟨_, hd, vs, rel, dd⟩ := dk_rd I.hok h
    obtain ⟨es, ep, raw, hz, _⟩ := dd.raw
    exact ⟨hd, es, ep, raw, by rw [hz, ← rel.length]; exact e⟩
  · obtain ⟨_, hd, xs, rel, dd⟩ := dt_rd I.hok h
    obtain ⟨es, ep, raw, hz, _⟩ := dd.raw
    exact ⟨hd, es, ep, raw, by rw [hz, ← Paired.length rel]; exact e⟩
def rEq0 : R2 := fun x y H Q => ∃ a b n, x = .ref a ∧ y = .ref b ∧ DLen H a n ∧ DLen H b 0 ∧ Q (.bl (n == 0)) H
def rNe0 : R2 := fun x y H Q => ∃ a b n, x = .ref a ∧ y = .ref b ∧ DLen H a n ∧ DLen H b 0 ∧ Q (.bl (!(n == 0))) H
theorem op_eq0 (hu : X.A.units < cLine) : OpR X (compareOp .Eq) rEq0 := by
  intro pins s σ H x y v u Q I rx ry h
  obtain ⟨a, b, n, rfl, rfl, ea, eb, q⟩ := h
  obtain rfl : v = Value.ref a := rx
  obtain rfl : u = Value.ref b := ry
  obtain ⟨ha, es, ep, ra, rfl⟩ := dlen_raw I ea
  obtain ⟨hb, es', ep', rb, z⟩ := dlen_raw I eb
  have e0 : es' = #[] := Array.size_eq_zero_iff.mp z
  subst e0
  exact eq_raw0 ha hb ra rb hu ⟨.bl (es.size == 0), H, I, rfl, q⟩
theorem op_ne0 (hu : X.A.units < cLine) : OpR X (compareOp .NotEq) rNe0 := by
  intro pins s σ H x y v u Q I rx ry h
  obtain ⟨a, b, n, rfl, rfl, ea, eb, q⟩ := h
  obtain rfl : v = Value.ref a := rx
  obtain rfl : u = Value.ref b := ry
  obtain ⟨ha, es, ep, ra, rfl⟩ := dlen_raw I ea
  obtain ⟨hb, es', ep', rb, z⟩ := dlen_raw I eb
  have e0 : es' = #[] := Array.size_eq_zero_iff.mp z
  subst e0
  exact ne_raw0 ha hb ra rb hu ⟨.bl (!(es.size == 0)), H, I, rfl, q⟩
end
end K9

set_option Elab.async false
set_option linter.all false
set_option maxRecDepth 100000
namespace K9
open PySem PySem.Spec PyProof.Rows L2
/-! ### sorted of a list of tuples of ints, any number: some arrangement -/
def tI (p : Addr × List Int) : V := .ref p.1
theorem dp_ints {K : PySem.W.Frag} {H : Hp} : ∀ ns : List Int, DpAll K H (ns.map V.int) (ns.map PyData.int)
  | [] => .nil
  | n :: ns => .cons (.int n) (dp_ints ns)
def rSortR (K : PySem.W.Frag) : List V → Hp → VK → Prop := fun vs H Q => ∃ (a : Addr) (rs : List (Addr × List Int)), vs = [.ref a] ∧ SqL K H a (rs.map tI) ∧ (2 ≤ rs.length → ∀ p ∈ rs, SqT K H p.1 (p.2.map V.int) ∧ p.2 ≠ []) ∧
  ∀ (ys : List (Addr × List Int)) (q : Addr), ys.Perm rs → H q = none → Q (.ref q) (upd H q (.lst (ys.map tI)))
theorem vals_tI : ∀ {rs : List (Addr × List Int)} {us : List Value}, Vals (rs.map tI) us → us = rs.map fun p => Value.ref p.1
  | [], _, r => by cases r; rfl
  | p :: rs, _, r => by
    rw [List.map_cons] at r
    cases r with
    | cons h t =>
      cases h
      rw [List.map_cons, ← vals_tI t]
theorem tI_vals : ∀ (rs : List (Addr × List Int)), Vals (rs.map tI) (rs.map fun p => Value.ref p.1)
  | [] => .nil
  | p :: rs => .cons rfl (tI_vals rs)
theorem each_ref : ∀ (rs : List (Addr × List Int)), PySem.W.EachIs (fun (v : Value) (p : Addr × List Int) => v = .ref p.1) (rs.map fun p => Value.ref p.1) rs
  | [] => .nil
  | p :: rs => .cons rfl (each_ref rs)
theorem ref_each : ∀ {out : List Value} {bs : List (Addr × List Int)}, PySem.W.EachIs (fun (v : Value) (p : Addr × List Int) => v = .ref p.1) out bs → out = bs.map fun p => Value.ref p.1
  | _, _, .nil => rfl
  | _, _, .cons h t => by rw [h, List.map_cons, ref_each t]
theorem each_all {h : Heap} {enc : Addr × List Int → PyData} : ∀ (rs : List (Addr × List Int)), (∀ p ∈ rs, ∃ as, Reads h (.ref p.1) (enc p) as) → PySem.W.EachIs (fun (v : Value) p => ∃ as, Reads h v (enc p) as) (rs.map fun p => Value.ref p.1) rs
  | [], _ => .nil
  | p :: rs, f => .cons (f p (by simp)) (each_all rs fun q hq => f q (by simp [hq]))
section
variable {X : Cx}
theorem cr_sortR (hu : X.A.units + 64 < cLine) : CallR X (.builtin "sorted") (rSortR X.K) := by
  intro pins s σ H vs us Q I r h
  obtain ⟨a, rs, rfl, hs, hr, q⟩ := h
  obtain ⟨its, rv, hl, hz⟩ := I.list hs
  rw [Vals.ref1 r]
  have ei := vals_tI rv
  subst ei
  rw [List.length_map] at hz
  have fin : ∀ ys : List (Addr × List Int), ys.Perm rs → EP X pins σ Q (.ref (s.heap.objs.size + 1)) { s with heap := sortedAll s.heap (rs.map fun p => Value.ref p.1) (ys.map fun p => Value.ref p.1).toArray } := fun ys hp => by
    obtain ⟨ep, he'⟩ := PyProof.Rows.sortedAll_at s.heap (rs.map fun p => Value.ref p.1) (ys.map fun p => Value.ref p.1).toArray
    have hlen : (ys.map tI).length ≤ sizeLine := by rw [List.length_map, hp.length_eq]; exact hz
    exact ⟨.ref _, upd H (s.heap.objs.size + 1) (.lst (ys.map tI)), I.laid (t' := s.toks) (fun _ _ => PyProof.Rows.sortedAll_old) (Nat.le_succ _) ⟨hlen, _, ep, tI_vals ys, he'⟩, rfl, q ys _ hp (I.hok.fresh (Nat.le_succ _))⟩
  by_cases h2 : 2 ≤ rs.length
  · refine PySem.W.sorted_data (enc := fun p : Addr × List Int => .tuple (p.2.map .int)) (R := fun v p => v = .ref p.1) hl.isList (each_ref rs) (each_all rs fun p hp => ?_) (PySem.W.AllAlike.of fun b b' => ?_) (.inl fun d hd => ?_) hz (fun b hb => ?_) fun out ho eo => ?_
    · exact Dp.reads I _ _ _ (.tup (hr h2 p hp).1 (dp_ints p.2)) rfl
    · simp only [PySem.W.alike]
      exact PySem.W.alike_ints _ _
    · obtain ⟨p, hp, rfl⟩ := List.mem_map.mp hd
      obtain ⟨x, xs, e⟩ := List.exists_cons_of_ne_nil (hr h2 p hp).2
      exact ⟨.int x, xs.map .int, by rw [e]; rfl⟩
    · simp only [PyData.depth]
      rw [PySem.W.depth_ints]
      omega
    · have e := ref_each eo
      subst e
      exact fin _ (List.mergeSort_perm _ _)
  · refine SrtO.sorted_ord (ltv := fun _ _ => false) ⟨fun _ _ z => (nomatch z), fun _ _ _ _ _ => rfl⟩ hl.isList (by rw [List.length_map]; exact hz) (fun z => absurd (by rw [List.length_map] at z; exact z) h2) fun out _ h4 => ?_
    have hp := h4.perm
    have hone : out = rs.map fun p => Value.ref p.1 := by
      match rs, h2, hp with
      | [], _, hp => exact hp.eq_nil
      | [p], _, hp => exact hp.eq_singleton
      | _ :: _ :: _, h2, _ => exact absurd (by simp) h2
    rw [hone]
    exact fin rs (List.Perm.refl _)
end
end K9

set_option Elab.async false
set_option linter.all false
set_option maxRecDepth 100000
namespace K9
open PySem PySem.Spec PyProof.Rows L2
/-! ### dict(xs), xs a list of pairs (a tuple, True) -/
theorem storedAll_new {κ : Type} [DecidableEq κ] : ∀ (ps xs : List (κ × Addr × Value)), ((xs ++ ps).map (·.1)).Nodup → storedAllH xs ps = xs ++ ps
  | [], xs, _ => by rw [List.append_nil]; rfl
  | p :: ps, xs, h => by
    have hn : p.1 ∉ xs.map (·.1) := fun hm => by
      rw [List.map_append, List.map_cons, List.nodup_append] at h
      exact h.2.2 _ hm _ (by simp) rfl
    have hk : atKey xs p.1 = none := by
      unfold atKey
      rw [Option.map_eq_none_iff, List.find?_eq_none]
      intro x hx hd
      exact hn (List.mem_map.mpr ⟨x, hx, by simpa using hd⟩)
    show storedAllH (storedH xs p.1 p.2.1 p.2.2) ps = _
    rw [storedH_new hk]
    have := storedAll_new ps (xs ++ [(p.1, p.2.1, p.2.2)]) (by rw [List.append_assoc]; exact h)
    rw [this, List.append_assoc]
    rfl
section
variable {X : Cx}
theorem vals_fst : ∀ {es : List (Addr × Addr × List Key)} {us : List Value}, Vals (es.map fun e => V.ref e.1) us → us = es.map fun e => Value.ref e.1
  | [], _, r => by cases r; rfl
  | p :: rs, _, r => by
    rw [List.map_cons] at r
    cases r with
    | cons h t =>
      cases h
      rw [List.map_cons, ← vals_fst t]
theorem kt_self {H : Hp} : ∀ (es : List (Addr × Addr × List Key)), (∀ e ∈ es, H e.2.1 = some (.tup (e.2.2.map kV))) → KT H (es.map fun e => (e.2.2, V.bl true)) (es.map fun e => (e.2.2, e.2.1, Value.bool true))
  | [], _ => .nil
  | e :: es, h => .cons ⟨rfl, h e (by simp), rfl⟩ (kt_self es fun x hx => h x (by simp [hx]))
theorem call_dictT (hu : X.A.units + 64 < cLine) (hcalm : X.calm = true) : CallR X (.type "dict") (fun xs H Q => ∃ (a : Addr) (es : List (Addr × Addr × List Key)), xs = [.ref a] ∧ SqL X.K H a (es.map fun e => V.ref e.1) ∧
    (∀ e ∈ es, H e.1 = some (.tup [.ref e.2.1, .bl true]) ∧ H e.2.1 = some (.tup (e.2.2.map kV))) ∧ (es.map fun e => e.2.2).Nodup ∧ ∀ p, H p = none → Q (.ref p) (upd H p (.dT (es.map fun e => (e.2.2, V.bl true))))) := by
  intro pins s σ H xs us Q I r q
  obtain ⟨a, es, rfl, hq, hp, hn, q⟩ := q
  obtain ⟨u, rfl, rx⟩ := vals1 r
  cases rx
  obtain ⟨its, rv, pl, hz⟩ := I.list hq
  have ei := vals_fst rv
  subst ei
  rw [List.length_map] at hz
  obtain ⟨o, n, ho, hc, hd, hdat⟩ := pl
  have gt : ∀ (j : Nat) (e : Addr × Addr × List Key), es[j]? = some e → (es.map (·.1)).getD j 0 = e.1 := fun j e h => by
    rw [List.getD_eq_getElem?_getD, List.getElem?_map, h]
    rfl
  have hpi : PairItems s.heap (es.map fun e => Value.ref e.1).toArray (fun j => (es.map (·.1)).getD j 0) (es.map fun e => (Value.ref e.2.1, Value.bool true)) := by
    refine ⟨by simp, fun j k v hj => ?_⟩
    rw [List.getElem?_map] at hj
    obtain ⟨e, he, e2⟩ := Option.map_eq_some_iff.mp hj
    cases e2
    show _ ∧ PairAt s.heap ((es.map (·.1)).getD j 0) _ _
    rw [gt j e he]
    refine ⟨by simp [he], ?_⟩
    obtain ⟨t1, _⟩ := hp e (List.mem_of_getElem? he)
    obtain ⟨_, its, rv2, hT⟩ := (show ObjOk X.prog X.w H s.heap e.1 (.tup [.ref e.2.1, .bl true]) from I.hok _ _ t1)
    obtain ⟨u1, u2, ei, ru, ry⟩ := vals2 rv2
    subst ei
    cases ru
    cases ry
    exact .inl hT
  refine call_dict_pairsH (knd := tupleKind (mixKind X.prog X.w)) (ps := es.map fun e => (e.2.2, e.2.1, Value.bool true)) (PairArg.list a (es.map fun e => Value.ref e.1).toArray (fun j => (es.map (·.1)).getD j 0) (es.map fun e => (Value.ref e.2.1, Value.bool true)))
    (I.ok.hd hcalm) (by show X.A.units + 1 + 1 < cLine; omega) ⟨⟨o, n, ho, hc, hd, hdat⟩, hpi⟩ ⟨by simp, fun i key v hr => ?_⟩ (fun h' hk x hx => ?_) (by rw [List.length_map]; exact hz) fun h' tk dd hk => ?_
  · have hr : (es.map fun e => (Value.ref e.2.1, Value.bool true))[i]? = some (key, v) := hr
    rw [List.getElem?_map] at hr
    obtain ⟨e, he, e2⟩ := Option.map_eq_some_iff.mp hr
    cases e2
    exact ⟨e.2.2, e.2.1, by rw [List.getElem?_map, he]; rfl, rfl⟩
  · obtain ⟨e, he, rfl⟩ := List.mem_map.mp hx
    obtain ⟨_, t2⟩ := hp e he
    obtain ⟨oo, its, nn, h1, h2, h3, h4⟩ := key_of I.hok t2
    exact ⟨oo, its, nn, hk _ _ (Nat.ne_of_lt (Heap.lt_size h1)) (by simp) h1, h2, h3, h4⟩
  · have hm : (s.heap.objs.size == sysModules) = false := beq_eq_false_iff_ne.mpr (Nat.ne_of_gt I.big)
    rw [storedAll_new _ [] (by rw [List.nil_append, List.map_map]; exact hn), List.nil_append] at dd
    refine ⟨.ref s.heap.objs.size, upd H s.heap.objs.size (.dT (es.map fun e => (e.2.2, V.bl true))), I.laid (t' := tk) (fun b ob z => hk b ob (by simp) z) (Nat.le_refl _) ?_, rfl, q _ (I.hok.fresh (Nat.le_refl _))⟩
    refine dtAll (by rw [List.length_map]; exact hz) hm (kt_self es fun e he => (hp e he).2) dd fun b ys z e => ?_
    rw [e, I.hok.fresh (Nat.le_refl _)] at z
    cases z
end
end K9

set_option Elab.async false
set_option linter.all false
set_option maxRecDepth 100000
namespace K9
open PySem PySem.Spec PyProof.Rows L2
/-! ### zip of three tuples of one length -/
def Itz3 (K : PySem.W.Frag) (a b c : Addr) : It :=
  ⟨fun i H => ∃ (xs ys zs : List V), SqT K H a xs ∧ SqT K H b ys ∧ SqT K H c zs ∧ i < xs.length ∧ i < ys.length ∧ i < zs.length,
    fun i H v H' => ∃ T x y z, v = .ref T ∧ H T = none ∧ H' = upd H T (.tup [x, y, z]) ∧ (∀ xs, SqT K H a xs → xs[i]? = some x) ∧ (∀ ys, SqT K H b ys → ys[i]? = some y) ∧ ∀ zs, SqT K H c zs → zs[i]? = some z,
    fun i H => ∃ (xs ys zs : List V), SqT K H a xs ∧ SqT K H b ys ∧ SqT K H c zs ∧ xs.length = i ∧ ys.length = i ∧ zs.length = i⟩
def Zst (z TI TO i1 i2 i3 a b c : Addr) (i : Nat) (h : Heap) : Prop :=
  IsZip h z TI TO .none ∧ IsTupOf3 h TI (.ref i1) (.ref i2) (.ref i3) ∧ (∃ a1 a2 a3, IsTupOf3 h TO a1 a2 a3) ∧ h.IsTupleIter i1 a i ∧ h.IsTupleIter i2 b i ∧ h.IsTupleIter i3 c i
section
variable {P : Program} {w : World} {K : PySem.W.Frag} {elts : List Expr} {kk : Nat} {tpos : Pos} {z TI TO i1 i2 i3 a b c : Addr}
theorem turn_zip3 (S : ZipSep3 z TI TO i1 i2 i3 [i1, a] [i2, b] [i3, c]) (n1 : a ≠ i1) (n2 : b ≠ i2) (n3 : c ≠ i3) :
    Turn P w K (.Tuple elts kk tpos) (Itz3 K a b c) [z, TI, TO, i1, i2, i3] z (Zst z TI TO i1 i2 i3 a b c) where
  mem := by simp
  obj := fun i h st d hd => by
    obtain ⟨hz, e0, ⟨_, _, _, e4⟩, ⟨o1, e1, _, d1⟩, ⟨o2, e2, _, d2⟩, ⟨o3, e3, _, d3⟩⟩ := st
    have e' : d = z ∨ d = TI ∨ d = TO ∨ d = i1 ∨ d = i2 ∨ d = i3 := by simpa using hd
    rcases e' with q | q | q | q | q | q
    · rw [q]; exact ⟨_, hz, fun v q => nomatch q⟩
    · rw [q]; exact ⟨_, e0, fun v q => nomatch q⟩
    · rw [q]; exact ⟨_, e4, fun v q => nomatch q⟩
    · rw [q]; exact ⟨o1, e1, fun v q => by rw [d1] at q; cases q⟩
    · rw [q]; exact ⟨o2, e2, fun v q => by rw [d2] at q; cases q⟩
    · rw [q]; exact ⟨o3, e3, fun v q => by rw [d3] at q; cases q⟩
  keep := fun i h h' st k => by
    obtain ⟨hz, e0, ⟨u1, u2, u3, e4⟩, h1, h2, h3⟩ := st
    exact ⟨k z (by simp) _ hz, k TI (by simp) _ e0, ⟨u1, u2, u3, k TO (by simp) _ e4⟩, h1.at fun o q => k i1 (by simp) o q, h2.at fun o q => k i2 (by simp) o q, h3.at fun o q => k i3 (by simp) o q⟩
  item := by
    intro X hP hw hK hc i pins s σ H E I hf st hg
    subst hP hw hK
    obtain ⟨xs, ys, zs, q1, q2, q3, l1, l2, l3⟩ := hg
    obtain ⟨t1, r1, p1, _⟩ := I.tuple q1
    obtain ⟨t2, r2, p2, _⟩ := I.tuple q2
    obtain ⟨t3, r3, p3, _⟩ := I.tuple q3
    have m1 := r1.length
    have m2 := r2.length
    have m3 := r3.length
    obtain ⟨hz, hTI, hTO, h1, h2, h3⟩ := id st
    refine (GoesN.zip3 (prog := X.prog) (w := X.w) (A := X.A) (elts := elts) (x1 := kk) (pos := tpos) S (Draws.tuple (A := X.A.in1) (I.ok.hd hc) i1 a n1 t1.toArray) (Draws.tuple (A := X.A.in1) (I.ok.hd hc) i2 b n2 t2.toArray) (Draws.tuple (A := X.A.in1) (I.ok.hd hc) i3 c n3 t3.toArray)).goes i s _ E (by simp; omega) ⟨hz, hTI, hTO, ⟨h1, p1⟩, ⟨h2, p2⟩, ⟨h3, p3⟩⟩ fun v h' tk hY st' hk _ => ?_
    obtain ⟨T, u1, u2, u3, rfl, hT, g1, g2, g3, o, ho, hoc, n, hod⟩ := hY
    have gx : xs[i]? = some xs[i] := List.getElem?_eq_getElem l1
    have gy : ys[i]? = some ys[i] := List.getElem?_eq_getElem l2
    have gz : zs[i]? = some zs[i] := List.getElem?_eq_getElem l3
    obtain ⟨w1, f1, ru1⟩ := r1.get gx
    obtain ⟨w2, f2, ru2⟩ := r2.get gy
    obtain ⟨w3, f3, ru3⟩ := r3.get gz
    have ew1 : w1 = u1 := Option.some.inj (f1.symm.trans (by simpa using g1))
    have ew2 : w2 = u2 := Option.some.inj (f2.symm.trans (by simpa using g2))
    have ew3 : w3 = u3 := Option.some.inj (f3.symm.trans (by simpa using g3))
    subst ew1 ew2 ew3
    have new : ObjOk X.prog X.w (upd H T (.tup [xs[i], ys[i], zs[i]])) h' T (.tup [xs[i], ys[i], zs[i]]) := ⟨by show 3 ≤ sizeLine; decide, [w1, w2, w3], .cons ru1 (.cons ru2 (.cons ru3 .nil)), ⟨o, ho, hoc, n, hod⟩⟩
    have I1 : Inv X pins σ (upd H T (.tup [xs[i], ys[i], zs[i]])) { s with heap := h', toks := tk } :=
      I.turnedNew (ch := [z, TI, TO, i1, i2, i3]) (fun d ob hd e => hk d ob (fun hm => hd (by simp at hm ⊢; rcases hm with e | e | e | e | e <;> simp [e])) e) hf hT new
    obtain ⟨k1, k2, k3, ⟨k4, _⟩, ⟨k5, _⟩, ⟨k6, _⟩⟩ := st'
    refine ⟨.ref T, _, I1, rfl, ⟨T, xs[i], ys[i], zs[i], rfl, I.hok.fresh hT, rfl, fun l hl => by rw [I.tuple_inj hl q1]; exact gx, fun l hl => by rw [I.tuple_inj hl q2]; exact gy, fun l hl => by rw [I.tuple_inj hl q3]; exact gz⟩, ⟨k1, k2, k3, k4, k5, k6⟩, fun d hd => ?_⟩
    have hlt : d < s.heap.objs.size := by
      obtain ⟨ob, e, _⟩ := (show ∃ ob, s.heap.get? d = some ob ∧ True from by
        have e' : d = z ∨ d = TI ∨ d = TO ∨ d = i1 ∨ d = i2 ∨ d = i3 := by simpa using hd
        obtain ⟨_, _, _, e4⟩ := hTO
        obtain ⟨_, e1, _⟩ := h1
        obtain ⟨_, e2, _⟩ := h2
        obtain ⟨_, e3, _⟩ := h3
        rcases e' with q | q | q | q | q | q <;> rw [q]
        · exact ⟨_, hz, trivial⟩
        · exact ⟨_, hTI, trivial⟩
        · exact ⟨_, e4, trivial⟩
        · exact ⟨_, e1, trivial⟩
        · exact ⟨_, e2, trivial⟩
        · exact ⟨_, e3, trivial⟩)
      exact Heap.lt_size e
    rw [upd_ne (Nat.ne_of_lt (Nat.lt_of_lt_of_le hlt hT))]
    exact (hf d hd).1
  done := by
    intro X hP hw hK hc i pins s σ H E I hf st hg
    subst hP hw hK
    obtain ⟨xs, ys, zs, q1, q2, q3, l1, l2, l3⟩ := hg
    obtain ⟨t1, r1, p1, _⟩ := I.tuple q1
    obtain ⟨t2, r2, p2, _⟩ := I.tuple q2
    obtain ⟨t3, r3, p3, _⟩ := I.tuple q3
    have m1 := r1.length
    have m2 := r2.length
    have m3 := r3.length
    obtain ⟨hz, hTI, hTO, h1, h2, h3⟩ := id st
    have en : min (min t1.toArray.size t2.toArray.size) t3.toArray.size = i := by simp; omega
    refine (GoesN.zip3 (prog := X.prog) (w := X.w) (A := X.A) (elts := elts) (x1 := kk) (pos := tpos) S (Draws.tuple (A := X.A.in1) (I.ok.hd hc) i1 a n1 t1.toArray) (Draws.tuple (A := X.A.in1) (I.ok.hd hc) i2 b n2 t2.toArray) (Draws.tuple (A := X.A.in1) (I.ok.hd hc) i3 c n3 t3.toArray)).stops s _ E (by rw [en]; exact ⟨hz, hTI, hTO, ⟨h1, p1⟩, ⟨h2, p2⟩, ⟨h3, p3⟩⟩) fun h' tk hk _ => ?_
    exact I.turnedL (ch := [z, TI, TO, i1, i2, i3]) (fun d ob hd e => hk d ob (fun hm => hd (by simp at hm ⊢; rcases hm with e | e | e | e | e <;> simp [e])) e) hf
  self := fun A i s Q E st h => wpAny_pyIter_zip st.1 h
end
def iZip3 (K : PySem.W.Frag) (ta : TA) : TI := fun σ H R => ta σ H fun vs H1 => ∃ a b c xs ys zs, vs = [.ref a, .ref b, .ref c] ∧ SqT K H1 a xs ∧ SqT K H1 b ys ∧ SqT K H1 c zs ∧ R (Itz3 K a b c) H1
theorem pi_zip3 {X : Cx} {e e2 e3 : Expr} {ta : TA} {p pos tpos : Pos} {elts : List Expr} {kk : Nat} (hg : Gl X "zip") (hm : X.mg "zip" = none) (ha : PA X [e, e2, e3] ta)
    (hs : starEach [e, e2, e3] X.env = (false, eval e X.env) :: starEach [e2, e3] X.env := by rfl) (hpl : (backTo pos (starEach [e2, e3] X.env)).any (·.1) = false := by rfl) :
    PI X (.Tuple elts kk tpos) (.Call (.Name "zip" p) [e, e2, e3] [] pos) (iZip3 X.K ta) := by
  refine ⟨fun pins s σ H R I h => ?_⟩
  refine Call_ (ld_blt I hg hm PyProof.Rows.boot_zip (PyProof.Rows.callWith_type1 (thn (ha.run pos pins s σ H _ I h) fun us s1 ⟨vs, H1, I1, r1, q1⟩ => ?_) hs hpl))
  obtain ⟨a, b, c, xs, ys, zs, ex, hx, hy, hz, q⟩ := q1
  subst ex
  cases r1 with
  | cons ra rr =>
    cases rr with
    | cons rb rr =>
      cases rr with
      | cons rc rr =>
        cases rr
        cases ra
        cases rb
        cases rc
        obtain ⟨t1, _, p1, _⟩ := I1.tuple hx
        obtain ⟨t2, _, p2, _⟩ := I1.tuple hy
        obtain ⟨t3, _, p3, _⟩ := I1.tuple hz
        obtain ⟨o1, ho1, _⟩ := id p1
        obtain ⟨o2, ho2, _⟩ := id p2
        obtain ⟨o3, ho3, _⟩ := id p3
        have la := Heap.lt_size ho1
        have lb := Heap.lt_size ho2
        have lc := Heap.lt_size ho3
        refine zip_begins3 (begins_tuple a t1.toArray) (begins_tuple b t2.toArray) (begins_tuple c t3.toArray) p1 p2 p3 fun h' hzp hTI hTO h1 h2 h3 hsz hk => wpAny_pyIter_zip hzp ?_
        have I2 : Inv X pins σ H1 { s1 with heap := h' } := I1.kept (t' := s1.toks) hk
        refine ⟨s1.heap.objs.size + 5, [s1.heap.objs.size + 5, s1.heap.objs.size + 3, s1.heap.objs.size + 4, s1.heap.objs.size, s1.heap.objs.size + 1, s1.heap.objs.size + 2], _, Itz3 X.K a b c, H1, rfl, I2,
          turn_zip3 (zip_sep3 (fun d hd => by have := List.mem_singleton.mp hd; rw [this]; exact la) (fun d hd => by have := List.mem_singleton.mp hd; rw [this]; exact lb) (fun d hd => by have := List.mem_singleton.mp hd; rw [this]; exact lc)) (Nat.ne_of_lt la) (Nat.ne_of_lt (Nat.lt_succ_of_lt lb)) (Nat.ne_of_lt (Nat.lt_succ_of_lt (Nat.lt_succ_of_lt lc))),
          ⟨hzp, hTI, ⟨_, _, _, hTO⟩, ⟨_, h1, rfl, rfl⟩, ⟨_, h2, rfl, rfl⟩, ⟨_, h3, rfl, rfl⟩⟩, fun d hd => ?_, q⟩
        have hle : s1.heap.objs.size ≤ d := by
          have e' : d = s1.heap.objs.size + 5 ∨ d = s1.heap.objs.size + 3 ∨ d = s1.heap.objs.size + 4 ∨ d = s1.heap.objs.size ∨ d = s1.heap.objs.size + 1 ∨ d = s1.heap.objs.size + 2 := by simpa using hd
          rcases e' with z | z | z | z | z | z <;> rw [z]
          · exact Nat.le_add_right _ _
          · exact Nat.le_add_right _ _
          · exact Nat.le_add_right _ _
          · exact Nat.le_refl _
          · exact Nat.le_add_right _ _
          · exact Nat.le_add_right _ _
        exact I1.fpOk hle (I1.hok.fresh hle)
theorem for_zip3 {K : PySem.W.Frag} {a b c : Addr} {xs ys zs : List V} {g : TG} {tb : TS} {D : Ends} {σ : L2.St} {H : Hp} (hl : xs.length = ys.length) (hl' : xs.length = zs.length) (Pv : Nat → L2.St → Hp → Prop) (h0 : Pv 0 σ H)
    (hq : ∀ i σ H, Pv i σ H → SqT K H a xs ∧ SqT K H b ys ∧ SqT K H c zs)
    (hs : ∀ (i : Nat) (x y z : V) (T : Addr) (σ : L2.St) (H : Hp), xs[i]? = some x → ys[i]? = some y → zs[i]? = some z → Pv i σ H → H T = none → g (.ref T) σ (upd H T (.tup [x, y, z])) fun σ2 H2 => tb { D with nx := Pv (i + 1), ct := Pv (i + 1), bk := D.nx } σ2 H2) (hd : ∀ σ H, Pv xs.length σ H → D.nx σ H) :
    ∃ W : Nat → Nat → L2.St → Hp → Prop, (∃ m, W 0 m σ H) ∧ ∀ i m σ H, W i m σ H →
      ((Itz3 K a b c).stop i H ∧ D.nx σ H) ∨ ((Itz3 K a b c).go i H ∧ ∃ N : L2.St → Hp → Prop, (∀ σ' H', N σ' H' → ∃ m', m' < m ∧ W (i + 1) m' σ' H') ∧ ∀ v H', (Itz3 K a b c).yld i H v H' → g v σ H' fun σ2 H2 => tb { D with nx := N, ct := N, bk := D.nx } σ2 H2) := by
  refine ⟨fun i m σ H => m = xs.length - i ∧ i ≤ xs.length ∧ Pv i σ H, ⟨xs.length, rfl, Nat.zero_le _, h0⟩, ?_⟩
  rintro i m σ H ⟨rfl, hi, p⟩
  obtain ⟨qx, qy, qz⟩ := hq i σ H p
  by_cases hlt : i < xs.length
  · refine .inr ⟨⟨xs, ys, zs, qx, qy, qz, hlt, by omega, by omega⟩, Pv (i + 1), fun σ' H' p' => ⟨xs.length - (i + 1), by omega, rfl, hlt, p'⟩, fun v H' y => ?_⟩
    obtain ⟨T, x', y', z', rfl, hT, rfl, f1, f2, f3⟩ := y
    exact hs i x' y' z' T σ H (f1 xs qx) (f2 ys qy) (f3 zs qz) p hT
  · have e : i = xs.length := by omega
    subst e
    exact .inl ⟨⟨xs, ys, zs, qx, qy, qz, rfl, by omega, by omega⟩, hd σ H p⟩
end K9

set_option Elab.async false
set_option linter.all false
set_option maxRecDepth 100000
namespace K9
open PySem PySem.Spec PyProof.Rows L2
section
variable {X : Cx}
/-! ### a pair among a tuple's pairs -/
def prD2 (p : Nat × Nat) : PyData := .tuple [.int p.1, .int p.2]
theorem prD2_all {K : PySem.W.Frag} {H : Hp} : ∀ {ts : List Addr} {ps : List (Nat × Nat)}, PairsAt H ts ps → DpAll K H (ts.map V.ref) (ps.map prD2)
  | _, _, .nil => .nil
  | _, _, .cons h t => .cons (.tup (.inl (.inl h)) (.cons (.int _) (.cons (.int _) .nil))) (prD2_all t)
theorem prD2_eqv (p q : Nat × Nat) : PyData.eqv (prD2 p) (prD2 q) = decide (p = q) := by
  obtain ⟨a, b⟩ := p
  obtain ⟨c, d⟩ := q
  unfold prD2
  simp only [PyData.eqv, PyData.eqvAll, Bool.and_true]
  by_cases h1 : a = c <;> by_cases h2 : b = d <;> simp [h1, h2, Prod.ext_iff] <;> omega
theorem prD2_lay (p : Nat × Nat) : (prD2 p).canLay0 = true := by simp [prD2, PyData.canLay0, PyData.canLayAll0]
theorem prD2s_lay : ∀ ps : List (Nat × Nat), PyData.canLayAll0 (ps.map prD2) = true
  | [] => by simp [PyData.canLayAll0]
  | p :: ps => by
    rw [List.map_cons, PyData.canLayAll0, prD2_lay, prD2s_lay ps]
    rfl
theorem prD2_depth (p : Nat × Nat) : (prD2 p).depth = 1 := by simp [prD2, PyData.depth, PyData.depthAll]
def rInP : R2 := fun x y H Q => ∃ (a b : Addr) (p : Nat × Nat) (ts : List Addr) (ps : List (Nat × Nat)), x = .ref a ∧ y = .ref b ∧ H a = some (.tup [iV p.1, iV p.2]) ∧ H b = some (.tup (ts.map V.ref)) ∧ PairsAt H ts ps ∧ Q (.bl (decide (p ∈ ps))) H
theorem op_inP (hu : X.A.units + 64 < cLine) : OpR X (compareOp .In) rInP := by
  intro pins s σ H x y v u Q I rx ry h
  obtain ⟨a, b, p, ts, ps, rfl, rfl, ha, hb, hp, q⟩ := h
  obtain ⟨as, r1⟩ := Dp.reads I (prD2 p) (.ref a) v (.tup (.inl (.inl ha)) (.cons (.int _) (.cons (.int _) .nil))) rx
  obtain ⟨bs, r2⟩ := Dp.reads I (.tuple (ps.map prD2)) (.ref b) u (.tup (.inl (.inl hb)) (prD2_all hp)) ry
  have hany : ((ps.map prD2).any fun z => PyData.eqv z (prD2 p)) = decide (p ∈ ps) := by
    rw [List.any_map]
    by_cases hm : p ∈ ps
    · rw [decide_eq_true hm, List.any_eq_true]
      exact ⟨p, hm, by simp [prD2_eqv]⟩
    · rw [decide_eq_false hm, List.any_eq_false]
      intro z hz hd
      have hd : PyData.eqv (prD2 z) (prD2 p) = true := hd
      rw [prD2_eqv] at hd
      exact hm ((of_decide_eq_true hd) ▸ hz)
  refine SeqAt.in_tuple_reads r2 r1 (prD2s_lay ps) (prD2_lay p) (by rw [prD2_depth]; have := Nat.min_le_right (PyData.depthAll (List.map prD2 ps)) 1; show X.A.units + 1 + min (PyData.depthAll (List.map prD2 ps)) 1 < cLine; omega) ?_
  rw [hany]
  exact ⟨.bl _, H, I, rfl, q⟩
/-! ### powers of large ints -/
def CPowB (i j : Int) : Prop := 0 ≤ j ∧ (Builtin.Int.intBits i : Int) * j ≤ 2 ^ 27
theorem op_powB : OpR X (binaryOp .Pow) (rI CPowB fun i j => .int (i ^ j.toNat)) := opI fun _ _ _ _ _ _ _ hc q => pow_int hc.1 hc.2 q
/-! ### repr of a list of ints -/
theorem shows_ints : ∀ {ns : List Int}, (∀ n ∈ ns, n.natAbs.log2 < 1920) → PyData.showableAll (ns.map PyData.int) = true
  | [], _ => rfl
  | n :: ns, h => by
    rw [List.map_cons, PyData.showableAll, shows_ints fun m hm => h m (by simp [hm])]
    simp only [PyData.showable]
    rw [decide_eq_true (h n (by simp))]
    rfl
theorem noDict_ints : ∀ ns : List Int, PyData.hasDictAll (ns.map PyData.int) = false
  | [] => rfl
  | n :: ns => by
    rw [List.map_cons, PyData.hasDictAll, noDict_ints ns]
    rfl
theorem call_reprL (hg : X.A.guards = some []) (hu : X.A.units + 64 < cLine) : CallR X (.builtin "repr") (fun xs H Q => ∃ (a : Addr) (ns : List Int), xs = [.ref a] ∧ SqL X.K H a (ns.map V.int) ∧ (∀ n ∈ ns, n.natAbs.log2 < 1920) ∧ (PyData.list (ns.map .int)).shown.length ≤ sizeLine ∧
    Q (.str (PyData.list (ns.map .int)).shown) H) := by
  intro pins s σ H xs us Q I r h
  obtain ⟨a, ns, rfl, hs, hn, hz, q⟩ := h
  obtain ⟨u, rfl, rx⟩ := vals1 r
  obtain ⟨as, r1⟩ := Dp.reads I (.list (ns.map .int)) (.ref a) u (.lst hs (dp_ints ns)) rx
  cases rx
  have hd : (PyData.list (ns.map PyData.int)).hasDict = false := by simp only [PyData.hasDict]; exact noDict_ints ns
  refine repr_of_reads' r1 (by simp only [PyData.showable]; exact shows_ints hn) (fun z => by rw [hd] at z; cases z) hg ?_ (fun _ _ z => z) (fun h' u tk hk => ?_) hz
  · simp only [PyData.depth]
    rw [PySem.W.depth_ints]
    omega
  · exact ⟨.str _, H, I.kept (t' := tk) hk, ⟨u, rfl⟩, q⟩
end
end K9

set_option Elab.async false
set_option linter.all false
set_option maxRecDepth 100000
namespace K9
open PySem PySem.Spec PyProof.Rows L2
/-! ### a dict whose keys are lots, its values ints -/
def nkP (p : Nat × Nat) : NestedKey := .tup [.num p.1, .num p.2]
def nk (L : Lt) : NestedKey := .tup [.num L.1, .tup (L.2.map nkP)]
theorem nkP_inj {p q : Nat × Nat} (h : nkP p = nkP q) : p = q := by
  unfold nkP at h
  injection h with h
  injection h with h1 h2
  injection h2 with h2 _
  injection h1 with h1
  injection h2 with h2
  exact Prod.ext (by omega) (by omega)
theorem nk_inj {L M : Lt} (h : nk L = nk M) : L = M := by
  unfold nk at h
  injection h with h
  injection h with h1 h2
  injection h2 with h2 _
  injection h1 with h1
  injection h2 with h2
  exact Prod.ext (by omega) ((List.map_inj_right (fun a b e => nkP_inj e)).mp h2)
theorem depth_ps : ∀ ps : List (Nat × Nat), NestedKey.depthAll (ps.map nkP) ≤ 1
  | [] => by simp [NestedKey.depthAll]
  | p :: ps => by
    have := depth_ps ps
    rw [List.map_cons, NestedKey.depthAll]
    simp only [nkP, NestedKey.depth, NestedKey.depthAll]
    omega
theorem depth_nk (L : Lt) : (nk L).depth ≤ 8 := by
  have := depth_ps L.2
  simp only [nk, NestedKey.depth, NestedKey.depthAll]
  omega
section
variable {X : Cx} {pins : List (Addr × Obj)} {σ : L2.St} {H : Hp} {s : Shared}
theorem tup_raw {P : Program} {w : World} {H : Hp} {h : Heap} {a : Addr} {xs : List V} (ok : HOk P w H h) (e : H a = some (.tup xs)) : ∃ its : List Value, Vals xs its ∧ ∃ o n, h.get? a = some o ∧ o.cls = .type "tuple" ∧ o.data = .seq its.toArray n := by
  obtain ⟨_, its, r, o, h1, h2, n, h3⟩ := (show ObjOk P w H h a (.tup xs) from ok a _ e)
  exact ⟨its, r, o, n, h1, h2, h3⟩
theorem pair_is {P : Program} {w : World} {H : Hp} {h : Heap} {a : Addr} {p : Nat × Nat} (ok : HOk P w H h) (e : H a = some (.tup [iV p.1, iV p.2])) : NestedIs h (nkP p) (.ref a) := by
  obtain ⟨its, r, o, n, h1, h2, h3⟩ := tup_raw ok e
  obtain ⟨u, v, rfl, ⟨t1, rfl⟩, ⟨t2, rfl⟩⟩ := vals2 r
  exact .tup h1 h2 h3 (.cons (.int _ _) (.cons (.int _ _) .nil))
theorem pairs_are {P : Program} {w : World} {H : Hp} {h : Heap} (ok : HOk P w H h) : ∀ {ts : List Addr} {ps : List (Nat × Nat)}, PairsAt H ts ps → NestedAll h (ps.map nkP) (ts.map Value.ref)
  | _, _, .nil => .nil
  | _, _, .cons h1 t => .cons (pair_is ok h1) (pairs_are ok t)
theorem lot_is {P : Program} {w : World} {H : Hp} {h : Heap} {a : Addr} {L : Lt} (ok : HOk P w H h) (hl : LotAt H a L) : (nestedKind P w).is h (nk L) a := by
  obtain ⟨b, ts, h1, h2, h3⟩ := hl
  obtain ⟨its, r, o, n, g1, g2, g3⟩ := tup_raw ok h1
  obtain ⟨u, v, rfl, ⟨t1, rfl⟩, rv⟩ := vals2 r
  cases rv
  obtain ⟨its2, r2, o2, n2, k1, k2, k3⟩ := tup_raw ok h2
  have e2 := refs_at r2
  subst e2
  exact ⟨.tup g1 g2 g3 (.cons (.int _ _) (.cons (.tup k1 k2 k3 (pairs_are ok h3)) .nil)), depth_nk L⟩
abbrev KnP : List (Lt × Addr × Int) → List (NestedKey × Addr × Value) → Prop := Paired fun e q => q.1 = nk e.1 ∧ q.2.1 = e.2.1 ∧ ∃ t, q.2.2 = .int e.2.2 t
def KnIs (P : Program) (w : World) (d : Addr) (es : List (Lt × Addr × Int)) (h : Heap) : Prop := (d == sysModules) = false ∧ es.length ≤ 1000 ∧ ∃ xs, KnP es xs ∧
  ∃ o ep ess, h.get? d = some o ∧ o.ExactDict ∧ o.data = .dict ess ep ∧ ess.toList = xs.map (entryOfKey (nestedKind P w)) ∧ (xs.map (·.1)).Nodup
def KnO (P : Program) (w : World) (d : Addr) (es : List (Lt × Addr × Int)) : HO := .ext (KnIs P w d es)
theorem kn_obj {P : Program} {w : World} {H : Hp} {h : Heap} {d : Addr} {es : List (Lt × Addr × Int)} (x : KnIs P w d es h) : ObjOk P w H h d (KnO P w d es) := by
  obtain ⟨z, l, xs, r, o, ep, ess, ho, q⟩ := id x
  exact ⟨x, ⟨o, ho⟩, fun h1 h2 ⟨z, l, xs, r, o, ep, ess, ho, q⟩ k => ⟨z, l, xs, r, o, ep, ess, k o ho, q⟩⟩
theorem kn_of {P : Program} {w : World} {H : Hp} {h : Heap} {d : Addr} {es : List (Lt × Addr × Int)} (ok : HOk P w H h) (e : H d = some (KnO P w d es)) (hk : ∀ e ∈ es, LotAt H e.2.1 e.1) :
    (d == sysModules) = false ∧ es.length ≤ 1000 ∧ ∃ xs, KnP es xs ∧ h.DictOfH (nestedKind P w) d xs := by
  obtain ⟨⟨z, l, xs, r, o, ep, ess, ho, h2, h3, h4, h5⟩, _⟩ := (show ObjOk P w H h d (KnO P w d es) from ok d _ e)
  refine ⟨z, l, xs, r, o, ess, ep, ho, h2, h3, h4, fun x hx => ?_, h5⟩
  have all : ∀ {l : List (Lt × Addr × Int)} {m : List (NestedKey × Addr × Value)}, KnP l m → (∀ e ∈ l, LotAt H e.2.1 e.1) → ∀ x ∈ m, (nestedKind P w).is h x.1 x.2.1 := by
    intro l m q
    induction q with
    | nil => intro _ x hx; exact nomatch hx
    | @cons p q ps qs hq t ih =>
      intro hk x hx
      rcases List.mem_cons.mp hx with e | hx
      · subst e
        rw [hq.1, hq.2.1]
        exact lot_is ok (hk p (by simp))
      · exact ih (fun e he => hk e (by simp [he])) x hx
  exact all r hk x hx
def knAt (es : List (Lt × Addr × Int)) (L : Lt) : Option Int := (es.find? fun e => decide (e.1 = L)).map (·.2.2)
theorem kn_find {es : List (Lt × Addr × Int)} {xs : List (NestedKey × Addr × Value)} (r : KnP es xs) (L : Lt) : RelO ((knAt es L).map V.int) ((atKey xs (nk L)).map (·.2)) := by
  induction r with
  | nil => exact True.intro
  | @cons p q ps qs h t ih =>
    obtain ⟨h1, h2, tk, h3⟩ := h
    by_cases e : p.1 = L
    · have b : atKey (q :: qs) (nk L) = some q.2 := by simp [atKey, List.find?_cons, h1, e]
      have b2 : knAt (p :: ps) L = some p.2.2 := by simp [knAt, List.find?_cons, e]
      rw [b, b2]
      exact ⟨tk, h3⟩
    · have ne : ¬ q.1 = nk L := fun z => e (nk_inj (h1.symm.trans z))
      have b : atKey (q :: qs) (nk L) = atKey qs (nk L) := by simp [atKey, List.find?_cons, ne]
      have b2 : knAt (p :: ps) L = knAt ps L := by simp [knAt, List.find?_cons, e]
      rw [b, b2]
      exact ih
/-- {} for lots -/
def tKnNew (P : Program) (w : World) : TE := fun _ H Q => ∀ p, H p = none → Q (.ref p) (upd H p (KnO P w p []))
theorem pe_knNew {pos : Pos} : PE X (.Dict [] [] pos) (tKnNew X.prog X.w) := ⟨fun pins s σ H Q I h =>
  wpAny_Dict_empty ⟨.ref s.heap.objs.size, _, I.laid (a := s.heap.objs.size) (o := KnO X.prog X.w s.heap.objs.size []) (t' := s.toks) (fun _ _ q => Heap.get?_push_of_some _ q) (Nat.le_refl _)
    (kn_obj ⟨beq_eq_false_iff_ne.mpr (Ne.symm (Nat.ne_of_lt I.big)), Nat.zero_le _, [], .nil, _, 0, #[], Heap.get?_push_size _ rfl, ⟨rfl, rfl, rfl⟩, rfl, rfl, List.nodup_nil⟩), rfl, h _ (I.hok.fresh (Nat.le_refl _))⟩⟩
def rKnNotIn (P : Program) (w : World) : R2 := fun x y H Q => ∃ (a d : Addr) (L : Lt) (es : List (Lt × Addr × Int)), x = .ref a ∧ y = .ref d ∧ LotAt H a L ∧ H d = some (KnO P w d es) ∧ (∀ e ∈ es, LotAt H e.2.1 e.1) ∧ Q (.bl (!(knAt es L).isSome)) H
theorem op_knNotIn (hu : X.A.units + 64 < cLine) : OpR X (compareOp .NotIn) (rKnNotIn X.prog X.w) := by
  intro pins s σ H x y v u Q I rx ry h
  obtain ⟨a, d, L, es, rfl, rfl, hl, hd, hk, q⟩ := h
  obtain rfl : v = Value.ref a := rx
  obtain rfl : u = Value.ref d := ry
  obtain ⟨z, _, xs, r, dd⟩ := kn_of I.hok hd hk
  refine wpAny_notIn_heap (knd := nestedKind X.prog X.w) (by show X.A.units + 1 + 8 < cLine; omega) (lot_is I.hok hl) z dd ?_
  have e := (kn_find r L).isSome_eq
  rw [Option.isSome_map, Option.isSome_map] at e
  rw [← e]
  exact ⟨.bl _, H, I.tok _, rfl, q⟩
variable {o i value : Expr} {pos pos' : Pos} {td ty tv : TE}
def tKnGet (P : Program) (w : World) (td ty : TE) : TE := fun σ H Q => td σ H fun x H1 => ty σ H1 fun y H2 => ∃ (a d : Addr) (L : Lt) (es : List (Lt × Addr × Int)) (n : Int), x = .ref d ∧ y = .ref a ∧ LotAt H2 a L ∧ H2 d = some (KnO P w d es) ∧ (∀ e ∈ es, LotAt H2 e.2.1 e.1) ∧ knAt es L = some n ∧ Q (.int n) H2
theorem pe_knGet (hu : X.A.units + 64 < cLine) (ho : PE X o td) (hi : PE X i ty) (hs : NoSl i) : PE X (.Subscript o i pos) (tKnGet X.prog X.w td ty) := by
  refine ⟨fun pins s σ H Q I h => ?_⟩
  refine subD_of PySem.F.slot_dict_getitem.lookup hs (thn (ho.run pins s σ H _ I h) fun u s1 ⟨x, H1, I1, rx, q1⟩ => thn (hi.run pins s1 σ H1 _ I1 q1) fun iv s2 ⟨y, H2, I2, ry, a, d, L, es, n, ex, ey, hl, hd, hk, hn, q2⟩ => ?_)
  subst ex ey
  obtain rfl : u = Value.ref d := rx
  obtain rfl : iv = Value.ref a := ry
  obtain ⟨z, _, xs, r, dd⟩ := kn_of I2.hok hd hk
  refine ⟨dd.typeIs, ?_⟩
  have e := kn_find r L
  rw [hn] at e
  obtain ⟨w', hw, t, ew⟩ := RelO.some_of (v := V.int n) e
  obtain ⟨p, hp, hp2⟩ := Option.map_eq_some_iff.mp hw
  refine wpAny_getItem_heap (knd := nestedKind X.prog X.w) (by show X.A.units + 1 + 8 < cLine; omega) (lot_is I2.hok hl) dd hp ?_
  rw [hp2, ew]
  exact ⟨.int n, H2, I2.tok _, ⟨t, rfl⟩, q2⟩
def sKnPut (P : Program) (w : World) (td ty tv : TE) : TS := fun D σ H => tv σ H fun v H1 => td σ H1 fun x H2 => ty σ H2 fun y H3 => ∃ (a d : Addr) (L : Lt) (es : List (Lt × Addr × Int)) (n : Int), v = .int n ∧ x = .ref d ∧ y = .ref a ∧ LotAt H3 a L ∧ H3 d = some (KnO P w d es) ∧
  (∀ e ∈ es, LotAt H3 e.2.1 e.1) ∧ knAt es L = none ∧ es.length < 1000 ∧ D.nx σ (upd H3 d (KnO P w d (es ++ [(L, a, n)])))
theorem ps_knPut (hu : X.A.units + 64 < cLine) (ho : PE X o td) (hi : PE X i ty) (hv : PE X value tv) (hs : swapsWith value (some (.Subscript o i pos')) pos.line X.env = pure false) :
    PS X (.Assign [.Subscript o i pos'] value pos) (sKnPut X.prog X.w td ty tv) := by
  refine ⟨fun pins s σ H D I h => ?_⟩
  refine wpAny_Assign_Subscript (thn (hv.run pins s σ H _ I h) fun r s1 ⟨v, H1, I1, rv, q1⟩ => thn (ho.run pins s1 σ H1 _ I1 q1) fun u s2 ⟨x, H2, I2, rx, q2⟩ => thn (hi.run pins s2 σ H2 _ I2 q2) fun iv s3 ⟨y, H3, I3, ry, a, d, L, es, n, ev, ex, ey, hl, hd, hk, hn, hz, q3⟩ => ?_) hs
  subst ev ex ey
  obtain rfl : u = Value.ref d := rx
  obtain rfl : iv = Value.ref a := ry
  obtain ⟨t, rfl⟩ := rv
  obtain ⟨z, _, xs, rr, dd⟩ := kn_of I3.hok hd hk
  have e := (kn_find rr L).isSome_eq
  rw [hn, Option.isSome_map, Option.isSome_map] at e
  have hno : atKey xs (nk L) = none := by
    cases q : atKey xs (nk L) with
    | none => rfl
    | some v => rw [q] at e; cases e
  have hlen : xs.length = es.length := (Paired.length rr).symm
  refine wpAny_setItem_heap (hsz := by rw [hlen]; exact Nat.le_of_lt (small1000 (by omega))) (knd := nestedKind X.prog X.w) (by show X.A.units + 1 + 8 < cLine; omega) (lot_is I3.hok hl) dd fun h' dd' hs' => ?_
  rw [storedH_new hno] at dd'
  obtain ⟨ob, es', ep, k1, k2, k3, k4, _, k5⟩ := dd'
  refine ⟨σ, _, d_write I3 (by rw [hd]; exact True.intro) hs' ⟨ob, k1⟩ (kn_obj ⟨z, ?_, _, Paired.snoc rr ⟨rfl, rfl, t, rfl⟩, ob, ep, es', k1, k2, k3, k4, k5⟩), q3⟩
  rw [List.length_append, List.length_cons, List.length_nil]
  omega
end
end K9

set_option Elab.async false
set_option linter.all false
set_option maxRecDepth 100000
namespace K9
open PySem PySem.Spec PyProof.Rows L2
/-! ### defs that are called where no repr is under way -/
def FnG (P : Program) (w : World) (K : PySem.W.Frag) (mg : Str → Option Value) (base : Heap) (k : Nat) (f : Addr) (fd : FuncData) (ps : List Str) (sp : Sp) : Prop :=
  (∀ vs H Q E, sp vs H Q E → vs.length = ps.length) ∧ ∀ (A : Around) (outer : List Env) (s : Shared) (H : Hp) (args : Args) (us : List Value) (vs : List V) (Q : VK) (E : XK), Room k A → A.guards = some [] → Env0 P w K mg base A outer s H →
    BindsTo s fd args (ps.zip us) → Vals vs us → sp vs H Q E → codeAny (model P w) A (.call (.ref f) args) (CR CX0 outer P w H s Q E) s
section
variable {P : Program} {w : World} {K : PySem.W.Frag} {mg : Str → Option Value} {base : Heap}
theorem fun_okG {x qual : Str} {st : Stmt} {f : Addr} {fd : FuncData} {N ps : List Str} {k : Nat} {sp : Sp} (F : Fun K x qual st f fd) (S : FnScope N ps (defScope st)) (len : ∀ vs H Q E, sp vs H Q E → vs.length = ps.length)
    (hbody : ∀ (cdv : Value) (A : Around) (outer : List Env) (s : Shared) (H : Hp) (vs : List V) (Q : VK) (E : XK), Room k (A.deeper (envOfC qual (defScope st) s.heap.objs.size f cdv)) → (A.deeper (envOfC qual (defScope st) s.heap.objs.size f cdv)).guards = some [] → sp vs H Q E →
      ∃ t, PSs (cxOf CX0 P w K mg base N qual (defScope st) f cdv A outer s H E).nox (defBody st) t ∧ t { nx := fun _ H' => Q .non H', rt := Q } (start N vs) H) : FnG P w K mg base (k + 1) f fd ps sp := by
  obtain ⟨oc, od, kV, doc, pm, an, cdv, ct, osl, rfl, lk, hcd⟩ := F.ex
  refine ⟨len, fun A outer s H args us vs Q E hr hgd e0 hb r hsp => ?_⟩
  have KX : K.In s.heap := e0.mod.kin.keeps fun b o z => (e0.bs b o z).1
  have lim : s.heap.NoLimit := e0.mod.nolimit.keeps fun b o z => (e0.bs b o z).1
  have kinds : ∀ y ∈ ps.zip us, (defScope st).names.lookup y.1 = some .local ∨ ((defScope st).names.lookup y.1 = some .cell ∧ ((cellsFrom (s.heap.objs.size + 1) (defScope st).names []).lookup y.1).isSome = true) := fun y hy =>
    (S.par y.1 (List.of_mem_zip (show (y.1, y.2) ∈ ps.zip us from hy)).1).imp id fun q => ⟨q, PySem.W.cellsFrom_some _ _ _ (.inl q)⟩
  refine codeAny_call_function hr.depth (KX _ _ lk) rfl S.co S.gen rfl (PySem.W.codeRec_of KX hcd) (hb _ _ _ _ ?_)
  refine wpAny_newFunctionEnv_cells S.kind kinds fun env he s1 x => ?_
  subst he
  refine ⟨lim.keeps x.toInCall.keep, codeAny_func ?_⟩
  obtain ⟨t, ht, hq⟩ := hbody cdv A outer s H vs Q E (hr.deeper _) hgd hsp
  have I := inv_start (CX := CX0) (E := E) S hr.hd e0 (len _ _ _ _ hsp) r x
  refine wpAny_mono (ht.nox.run [] s1 (start N vs) H _ I hq) (fun fl s' hs => ?_) fun e s' hs => hs
  cases fl with
  | ret u =>
    obtain ⟨v, σ', H', J, rv, q⟩ := hs
    exact ⟨v, H', J.os, J.bare, J.base, J.hok, rv, q⟩
  | next =>
    obtain ⟨σ', H', J, q⟩ := hs
    exact ⟨V.non, H', J.os, J.bare, J.base, J.hok, rfl, q⟩
  | brk =>
    obtain ⟨_, _, _, q⟩ := hs
    exact False.elim q
  | cont =>
    obtain ⟨_, _, _, q⟩ := hs
    exact False.elim q
end
section
variable {X : Cx} {k : Nat} {f : Addr} {fd : FuncData} {ps : List Str} {sp : Sp} {E : XK} {x : Str} {p pos : Pos} {e : Expr} {es : List Expr} {t : TA}
theorem pe_callG (F : FnG X.prog X.w X.K X.mg X.base k f fd ps sp) (hr : Room k X.A) (hgd : X.A.guards = some []) (hg : Gl X x) (hm : X.mg x = some (.ref f)) (hk : PySem.W.keepIn X.K (.ref f) = true) (hb : Binds X.K fd ps [])
    (ha : PA X (e :: es) t) (hdb : (x == ("__debug__" : Str)) = false := by decide) (he : starEach (e :: es) X.env = (false, eval e X.env) :: starEach es X.env := by rfl) (hpl : (backTo pos (starEach es X.env)).any (·.1) = false := by rfl) :
    PE X (.Call (.Name x p) (e :: es) [] pos) (tCall sp [] E0 t) := by
  refine ⟨fun pins s σ H Q I h => ?_⟩
  refine wpAny_Call_Name_kw (ld_glob I hg hm ?_ hdb)
  refine PySem.W.callWith_K (h₀ := X.base) I.ok.mod.kin hk (thn (ha.run pos pins s σ H _ I h) fun us s1 ⟨vs, H1, I1, r, q⟩ => ⟨I1.kIn, ?_⟩) he hpl
  have q : sp vs H1 Q E0 := by
    have q' : sp (vs ++ []) H1 Q E0 := q
    rw [List.append_nil] at q'
    exact q'
  have hl : (us ++ ([] : List Value)).length = ps.length := by rw [List.append_nil, ← r.length]; exact F.1 _ _ _ _ q
  have hbt := hb s1 us I1.kIn hl
  rw [List.append_nil] at hbt
  refine wpAny_call (codeAny_mono (F.2 X.A X.stack s1 H1 ⟨us, []⟩ us vs Q E0 hr hgd I1.env0 hbt r q) fun r' s' hq => ?_)
  cases r' with
  | error e => exact False.elim hq
  | ok fl =>
    cases fl with
    | ret u => exact I1.after hq
    | next => exact False.elim hq
    | brk => exact False.elim hq
    | cont => exact False.elim hq
end
theorem law_callG {P : Program} {w : World} {K : PySem.W.Frag} {mg mb : Str → Option Value} {k : Nat} {fa a : Addr} {fd : FuncData} {x : Str} {sp : Sp} {s₁ : Shared} {vs : List Value} {ns : List Int}
    (KX : K.In s₁.heap) (hns : s₁.heap.Ns mainGlobals mg) (hb : s₁.heap.Ns builtinsNs mb) (hbb : ∀ x : Str, x ≠ "__name__" → mb x = bootBuiltins x) (hlim : s₁.heap.NoLimit) (hg : s₁.gens = #[])
    (ha : s₁.heap.get? a = some { cls := .type "list", data := .seq vs.toArray }) (hi : IntsAre vs ns) (hl : ns.length ≤ sizeLine) (hr : Room k callerA)
    (F : ∀ base : Heap, K.In base → base.Ns mainGlobals mg → FnG P w K mg base k fa fd [x] sp) (hbind : ∀ (s : Shared) (u : Value), BindsTo s fd ⟨[u], []⟩ [(x, u)])
    (hsp : ∀ H : Hp, Only H → SqL K H a (ns.map V.int) → sp [.ref a] H (fun v _ => v = .bl true) fun _ _ _ => False) :
    codeAny (model P w) callerA (.call (.ref fa) ⟨[.ref a], []⟩) (fun r s' => r = .ok (.ret (.bool true)) ∧ OldK s₁.heap s'.heap ∧ s'.os = s₁.os ∧ AllBare s'.gens) s₁ := by
  have rv := vals_ints hi
  have lenV := hi.length
  have core : ∀ H : Hp, Only H → SqL K H a (ns.map V.int) → HOk P w H s₁.heap → (∀ b, H b ≠ none → b = a) → (H a ≠ none → K.lookup a = none) →
      codeAny (model P w) callerA (.call (.ref fa) ⟨[.ref a], []⟩) (fun r s' => r = .ok (.ret (.bool true)) ∧ OldK s₁.heap s'.heap ∧ s'.os = s₁.os ∧ AllBare s'.gens) s₁ := by
    intro H hO hS hok hA hK
    have onlyA : ∀ {b : Addr}, b ≠ a → H b = none := fun {b} hne => by
      cases q : H b with
      | none => rfl
      | some u => exact absurd (hA b (by rw [q]; simp)) hne
    have noD : ∀ {b : Addr} {o : Obj} {es : Array DictEntry} {ep : Nat}, s₁.heap.get? b = some o → o.data = .dict es ep → H b = none := fun {b o es ep} e d => by
      refine onlyA fun z => ?_
      rw [z, ha] at e
      cases e
      exact nomatch (show Data.seq vs.toArray _ = Data.dict es ep from d)
    have nsK : ∀ {b : Addr} {m : Str → Option Value}, s₁.heap.Ns b m → (hidT s₁.heap H).Ns b m := fun {b m} ⟨o, es, ep, e, d, r⟩ => ⟨o, es, ep, hidT_get e (noD e d), d, r⟩
    have hKb : K.In (hidT s₁.heap H) := fun b o e => hidT_get (KX b o e) (by
      cases q : H b with
      | none => rfl
      | some u =>
        have z : b = a := hA b (by rw [q]; simp)
        subst z
        rw [hK (by rw [q]; simp)] at e
        cases e)
    have hM : Mod K mg (hidT s₁.heap H) := ⟨hKb, nsK hns, ⟨mb, nsK hb, hbb⟩, let ⟨mc, h1, h2⟩ := hlim; ⟨mc, nsK h1, h2⟩⟩
    have e0 : Env0 P w K mg (hidT s₁.heap H) callerA [] s₁ H := ⟨rfl, hM, fun b o e => of_hidT e, Nat.le_of_eq (hidT_size _ _), trivial, fun b hb => absurd (show b ∈ ([] : List Addr) from hb) (by simp), hok, .of_eq hg⟩
    refine codeAny_mono ((F _ hKb (nsK hns)).2 callerA [] s₁ H ⟨[.ref a], []⟩ [.ref a] [.ref a] _ _ hr rfl e0 (hbind s₁ (.ref a)) (.cons rfl .nil) (hsp H hO hS)) fun r s' h => ?_
    cases r with
    | error e => exact False.elim h
    | ok fl =>
      cases fl with
      | next => exact False.elim h
      | brk => exact False.elim h
      | cont => exact False.elim h
      | ret u =>
        obtain ⟨v, H', os, bare, un, hok', r', q⟩ := h
        have q' : v = .bl true := q
        subst q'
        obtain rfl : u = Value.bool true := r'
        refine ⟨rfl, OldK.of_keep fun b o e => ?_, os, bare⟩
        cases q : H b with
        | none => exact un.keep b o e q (fun z => nomatch (show b ∈ ([] : List Addr) from z)) (by simp)
        | some u =>
          rcases hO b with z | ⟨ob, xs, z⟩
          · rw [q] at z; cases z
          · obtain ⟨e1, _⟩ := hok b _ z
            obtain ⟨e2, _⟩ := hok' b _ (un.frzs b ob _ z)
            rw [e] at e1
            cases e1
            exact e2
  cases hk : K.lookup a with
  | some o =>
    have e := KX a o hk
    rw [ha] at e
    cases e
    exact core (fun _ => none) (fun _ => .inl rfl) (.inr ⟨_, vs.toArray, _, hk, rfl, rfl, rfl, by rw [List.size_toArray, lenV]; exact hl, by simpa using rv⟩) (fun b u z => nomatch (show (none : Option HO) = some u from z)) (fun b z => absurd rfl z) fun z => absurd rfl z
  | none =>
    refine core (fun b => if b = a then some (.frz { cls := .type "list", data := .seq vs.toArray } (.lst (ns.map V.int))) else none) (fun b => ?_) (.inl (.inr ⟨{ cls := .type "list", data := .seq vs.toArray }, if_pos rfl⟩)) (fun b u z => ?_) (fun b z => ?_) fun _ => hk
    · by_cases hb : b = a
      · exact .inr ⟨_, _, if_pos hb⟩
      · exact .inl (if_neg hb)
    · by_cases hb : b = a
      · have z' := (if_pos hb).symm.trans z
        cases z'
        subst hb
        exact ⟨ha, by rw [List.length_map]; exact hl, vs, _, rv, ha⟩
      · have z' := (if_neg hb).symm.trans z
        cases z'
    · by_cases hb : b = a
      · exact hb
      · exact absurd (if_neg hb) z
theorem walk_ofG {l : PySem.W.OpenLaw} {n k : Nat} {q : Program} {loose : List Str} {XP : (Str → Option Value) → Heap → Prop} {YP : World → Heap → Prop} {d : DefRec} {K : Params → PySem.W.Frag} {sp : World → Sp} {x : Str}
    (hn : l.most = some n) (hn2 : n ≤ sizeLine) (hdf : d.params.defaults = []) (hr : Room k callerA) (hY : ∀ (w : World) (h : Heap), YP w h → (K w.params).In h)
    (F : ∀ (w : World) (mg : Str → Option Value) (fa : Addr) (h : Heap), (K w.params).In h → h.Ns mainGlobals mg → mg d.name = some (.ref fa) →
      ∃ fd : FuncData, (∀ (s : Shared) (u : Value), BindsTo s fd ⟨[u], []⟩ [(x, u)]) ∧ ∀ base : Heap, (K w.params).In base → base.Ns mainGlobals mg → FnG l.prog w (K w.params) mg base k fa fd [x] (sp w))
    (hsp : ∀ (w : World) (H : Hp) (a : Addr) (ns : List Int), ns.length ≤ n → Only H → SqL (K w.params) H a (ns.map V.int) → sp w [.ref a] H (fun v _ => v = .bl true) fun _ _ _ => False) :
    PySem.W.WalkO q loose XP YP l.row.toRowW d [] (fun f vs => PySem.call f vs) := by
  refine Att.attach_call hn hdf fun w s₀ s₁ mg mb fa o pm cd doc a vs ns G Y ho hd hcd hmg hobj hints hlen hg => ?_
  obtain ⟨fd, hb, hF⟩ := F w mg fa _ (hY w _ Y) G.T.g hmg
  exact law_callG (hY w _ Y) G.T.g G.T.b G.T.builtins G.T.nolimit hg hobj hints (Nat.le_trans hlen hn2) hr hF hb (fun H hO hS => hsp w H a ns hlen hO hS)
end K9

set_option Elab.async false
set_option linter.all false
set_option maxRecDepth 100000
namespace K9
open PySem PySem.Spec PyProof.Rows L2
/-- tuples are as they were -/
def TSame (H H' : Hp) : Prop := ∀ b xs, H b = some (.tup xs) → H' b = some (.tup xs)
theorem TSame.refl (H : Hp) : TSame H H := fun _ _ h => h
theorem TSame.of {H H' : Hp} (h : Same H H') : TSame H H' := fun _ _ e => h _ _ e
theorem TSame.trans {H H1 H2 : Hp} (a : TSame H H1) (b : TSame H1 H2) : TSame H H2 := fun c xs h => b c xs (a c xs h)
theorem TSame.upd {H : Hp} {D : Addr} {u o : HO} (h : H D = some u) (hu : ∀ xs, u ≠ .tup xs) : TSame H (L2.upd H D o) := fun b xs e => by
  rw [upd_ne (ne_of e h fun z => hu xs z.symm)]
  exact e
theorem TSame.new {H : Hp} {D : Addr} {o : HO} (h : H D = none) : TSame H (L2.upd H D o) := .of (same_upd h)
/-- tuples of marks -/
def RowsAt (H : Hp) (ts : List Addr) (rs : List (List Nat)) : Prop := Paired (fun t r => H t = some (.tup (rV r))) ts rs
theorem RowsAt.ts {H H' : Hp} {ts : List Addr} {rs : List (List Nat)} (h : RowsAt H ts rs) (s : TSame H H') : RowsAt H' ts rs := Paired.mapP h fun _ _ q => s _ _ q
theorem RowsAt.snoc {H : Hp} {ts : List Addr} {rs : List (List Nat)} {t : Addr} {r : List Nat} (h : RowsAt H ts rs) (e : H t = some (.tup (rV r))) : RowsAt H (ts ++ [t]) (rs ++ [r]) := Paired.snoc h e
theorem RowsAt.len {H : Hp} {ts : List Addr} {rs : List (List Nat)} (h : RowsAt H ts rs) : ts.length = rs.length := Paired.length h
theorem RowsAt.get {H : Hp} {ts : List Addr} {rs : List (List Nat)} (h : RowsAt H ts rs) {i : Nat} {t : Addr} (e : ts[i]? = some t) : ∃ r, rs[i]? = some r ∧ H t = some (.tup (rV r)) := paired_get h e
theorem PairsAt.ts {H H' : Hp} {ts : List Addr} {ps : List (Nat × Nat)} (h : PairsAt H ts ps) (s : TSame H H') : PairsAt H' ts ps := Paired.mapP h fun _ _ q => s _ _ q
theorem LotAt.ts {H H' : Hp} {a : Addr} {L : Lt} (h : LotAt H a L) (s : TSame H H') : LotAt H' a L :=
  let ⟨b, ts, h1, h2, h3⟩ := h
  ⟨b, ts, s _ _ h1, s _ _ h2, h3.ts s⟩
theorem get_ref {ts : List Addr} {i : Nat} {x : V} (h : (ts.map V.ref)[i]? = some x) : ∃ t, ts[i]? = some t ∧ x = .ref t := by
  rw [List.getElem?_map] at h
  obtain ⟨t, ht, e⟩ := Option.map_eq_some_iff.mp h
  exact ⟨t, ht, e.symm⟩
theorem get_iV {ts : List Nat} {i : Nat} {x : V} (h : (rV ts)[i]? = some x) : ∃ t, ts[i]? = some t ∧ x = iV t := by
  unfold rV at h
  rw [List.getElem?_map] at h
  obtain ⟨t, ht, e⟩ := Option.map_eq_some_iff.mp h
  exact ⟨t, ht, e.symm⟩
theorem take_next {α : Type} {l : List α} {i : Nat} {x : α} (h : l[i]? = some x) : l.take (i + 1) = l.take i ++ [x] := by
  rw [List.take_add_one, h]
  rfl
theorem rV_app (r s : List Nat) : rV (r ++ s) = rV r ++ rV s := by unfold rV; rw [List.map_append]
theorem rV_inj {r s : List Nat} (h : rV r = rV s) : r = s := (List.map_inj_right (f := iV) (fun a b e => by
  have := V.int.inj e
  omega)).mp h
/-! ### readings in short -/
section
variable {K : PySem.W.Frag} {H : Hp} {Q : VK} {a b : Addr} {xs ys : List V}
theorem cut_whole {lo hi : Option Int} (h : HT.sIx xs.length 0 lo = 0 ∧ HT.sIx xs.length xs.length hi = xs.length) : cutV xs lo hi = xs := by
  unfold cutV
  rw [h.1, h.2, List.drop_zero, Nat.sub_zero, List.take_length]
theorem slA {lo hi : Option Int} (h : H a = some (.tup xs)) (q : ∀ H' p, Same H H' → H' p = some (.tup (cutV xs lo hi)) → Q (.ref p) H') : rSlA K (.ref a) lo hi H Q :=
  ⟨a, xs, rfl, .inl (.inl h), fun w => q H a (Same.refl _) (by rw [cut_whole w]; exact h), fun _ p np => q _ p (same_upd np) upd_same⟩
theorem catA (ha : H a = some (.tup xs)) (hb : H b = some (.tup ys)) (hz : xs.length + ys.length ≤ sizeLine) (q : ∀ H' p, Same H H' → H' p = some (.tup (xs ++ ys)) → Q (.ref p) H') : rCatA K (.ref a) (.ref b) H Q :=
  ⟨a, b, xs, ys, rfl, rfl, .inl (.inl ha), .inl (.inl hb), hz, fun e => q H b (Same.refl _) (by subst e; exact hb), fun _ e => q H a (Same.refl _) (by subst e; rw [List.append_nil]; exact ha), fun _ _ p np => q _ p (same_upd np) upd_same⟩
theorem cut_to (r : List Nat) (i : Nat) : cutV (rV r) none (some (i : Int)) = rV (r.take i) := by
  unfold cutV rV
  rw [HT.sIx_none, HT.sIx_nat, List.drop_zero, Nat.sub_zero, List.map_take, List.length_map]
  by_cases h : i ≤ r.length
  · rw [Nat.min_eq_left h]
  · rw [Nat.min_eq_right (by omega), List.take_of_length_le (by simp), List.take_of_length_le (by simp; omega)]
theorem cut_from (r : List Nat) (i : Nat) : cutV (rV r) (some (i : Int)) none = rV (r.drop i) := by
  unfold cutV rV
  rw [HT.sIx_none, HT.sIx_nat, List.map_drop, List.length_map]
  by_cases h : i ≤ r.length
  · rw [Nat.min_eq_left h, List.take_of_length_le (by simp)]
  · rw [Nat.min_eq_right (by omega), List.drop_eq_nil_of_le (by simp), List.drop_eq_nil_of_le (by simp; omega), List.take_nil]
end
end K9

set_option Elab.async false
set_option linter.all false
set_option maxRecDepth 100000
namespace K9
open PySem PySem.Spec PyProof.Rows L2
/-- a def that may be called -/
structure Cal (P : Program) (w : World) (K : PySem.W.Frag) (mg : Str → Option Value) (base : Heap) (x : Str) (k : Nat) (ps : List Str) (sp : Sp) (f : Addr) (fd : FuncData) : Prop where
  ok : FnOk P w K mg base CX0 k f fd ps sp
  b : L2.Binds K fd ps []
  g : mg x = some (.ref f)
  kp : PySem.W.keepIn K (.ref f) = true
/-- lists of marks are as they were -/
def LSame (H H' : Hp) : Prop := ∀ b ys, H b = some (.lst (rV ys)) → H' b = some (.lst (rV ys))
theorem LSame.of {H H' : Hp} (h : Same H H') : LSame H H' := fun _ _ e => h _ _ e
theorem LSame.trans {H H1 H2 : Hp} (a : LSame H H1) (b : LSame H1 H2) : LSame H H2 := fun c xs h => b c xs (a c xs h)
theorem LSame.upd {H : Hp} {D : Addr} {u o : HO} (h : H D = some u) (hu : ∀ ys, u ≠ .lst (rV ys)) : LSame H (L2.upd H D o) := fun b xs e => by
  rw [upd_ne (ne_of e h fun z => hu xs z.symm)]
  exact e
theorem LSame.new {H : Hp} {D : Addr} {o : HO} (h : H D = none) : LSame H (L2.upd H D o) := .of (same_upd h)
theorem rV_refs {ys : List Nat} {d : Addr} {ds : List Addr} : HO.lst ((ds ++ [d]).map V.ref) ≠ .lst (rV ys) := fun z => by
  have z := HO.lst.inj z
  cases ds with
  | nil => cases ys with
    | nil => cases z
    | cons y ys => cases (List.cons.inj z).1
  | cons e ds => cases ys with
    | nil => cases z
    | cons y ys => cases (List.cons.inj z).1
/-- a dict's entries: rows, each with the list of the marks above -/
def LevP (H : Hp) (L : Lt) (kvs : List (List Key × V)) (rs : List (List Nat)) : Prop := Paired (fun (kv : List Key × V) (r : List Nat) => kv.1 = rk r ∧ ∃ m, kv.2 = .ref m ∧ H m = some (.lst (rV (aboveL L r)))) kvs rs
theorem LevP.ls {H H' : Hp} {L : Lt} {kvs : List (List Key × V)} {rs : List (List Nat)} (h : LevP H L kvs rs) (s : LSame H H') : LevP H' L kvs rs := Paired.mapP h fun _ _ ⟨h1, m, h2, h3⟩ => ⟨h1, m, h2, s _ _ h3⟩
theorem LevP.get {H : Hp} {L : Lt} {kvs : List (List Key × V)} {rs : List (List Nat)} (h : LevP H L kvs rs) {i : Nat} {k : List Key} {v : V} (e : kvs[i]? = some (k, v)) : ∃ r m, rs[i]? = some r ∧ k = rk r ∧ v = .ref m ∧ H m = some (.lst (rV (aboveL L r))) := by
  obtain ⟨r, h1, h2, m, h3, h4⟩ := paired_get h e
  exact ⟨r, m, h1, h2, h3, h4⟩
theorem keys_none {Φ : List Key × V → List Nat → Prop} {kvs : List (List Key × V)} {rs : List (List Nat)} (h : Paired (fun (kv : List Key × V) r => kv.1 = rk r ∧ Φ kv r) kvs rs) {r : List Nat} (hn : r ∉ rs) : valV kvs (rk r) = none := by
  induction h with
  | nil => rfl
  | @cons kv r' kvs rs h t ih =>
    rw [List.mem_cons, not_or] at hn
    rw [valV_neg fun e => hn.1 (rk_inj (e.symm.trans h.1))]
    exact ih hn.2
theorem keys_some {Φ : List Key × V → List Nat → Prop} {kvs : List (List Key × V)} {rs : List (List Nat)} (h : Paired (fun (kv : List Key × V) r => kv.1 = rk r ∧ Φ kv r) kvs rs) {r : List Nat} (hm : r ∈ rs) : ∃ kv, valV kvs (rk r) = some kv.2 ∧ kv.1 = rk r ∧ Φ kv r := by
  induction h with
  | nil => cases hm
  | @cons kv r' kvs rs h t ih =>
    by_cases e : r = r'
    · subst e
      exact ⟨kv, valV_pos h.1, h.1, h.2⟩
    · rw [valV_neg fun z => e (rk_inj (z.symm.trans h.1))]
      exact ih ((List.mem_cons.mp hm).resolve_left e)
theorem rows_len (L : Lt) : ∀ k, (rowsL L k).length ≤ L.1 ^ k
  | 0 => Nat.le_refl _
  | k + 1 => by
    have ih := rows_len L k
    have key : ∀ rs : List (List Nat), (rs.flatMap (extL L)).length ≤ rs.length * L.1 := fun rs => by
      induction rs with
      | nil => simp
      | cons r rs ih =>
        rw [List.flatMap_cons, List.length_append, List.length_cons, Nat.succ_mul]
        have : (extL L r).length ≤ L.1 := by unfold extL; rw [List.length_map]; exact above_len L r
        omega
    show ((rowsL L k).flatMap (extL L)).length ≤ L.1 ^ k * L.1
    exact Nat.le_trans (key _) (Nat.mul_le_mul_right _ ih)
theorem rows_few {L : Lt} (h : L.1 ≤ 9) {k : Nat} (hk : k ≤ 4) : (rowsL L k).length ≤ 6561 := by
  have h1 := rows_len L k
  have h2 : L.1 ^ k ≤ 9 ^ k := Nat.pow_le_pow_left h k
  have h3 : 9 ^ k ≤ 9 ^ 4 := Nat.pow_le_pow_right (by omega) hk
  have h4 : (9 : Nat) ^ 4 = 6561 := by decide
  omega
/-- the level of rows of k marks stands at d -/
def LevAt (H : Hp) (d : Addr) (L : Lt) (k : Nat) : Prop := ∃ kvs, H d = some (.dT kvs) ∧ LevP H L kvs (rowsL L k)
theorem LevAt.same {H H' : Hp} {d : Addr} {L : Lt} {k : Nat} (h : LevAt H d L k) (s : Same H H') : LevAt H' d L k :=
  let ⟨kvs, h1, h2⟩ := h
  ⟨kvs, s _ _ h1, h2.ls (.of s)⟩
theorem new_row {α β : Type} {f : α → List β} {rs : List α} {i j : Nat} {r : α} {x : β} (hn : (rs.flatMap f).Nodup) (hr : rs[i]? = some r) (hx : (f r)[j]? = some x) : x ∉ (rs.take i).flatMap f ++ (f r).take j := by
  have e1 : rs = rs.take i ++ r :: rs.drop (i + 1) := by
    obtain ⟨hi, e⟩ := List.getElem?_eq_some_iff.mp hr
    rw [← e, List.getElem_cons_drop hi, List.take_append_drop]
  have e2 : f r = (f r).take j ++ x :: (f r).drop (j + 1) := by
    obtain ⟨hj, e⟩ := List.getElem?_eq_some_iff.mp hx
    rw [← e, List.getElem_cons_drop hj, List.take_append_drop]
  rw [e1, List.flatMap_append, List.flatMap_cons] at hn
  have hn' : ((rs.take i).flatMap f ++ (f r).take j ++ (x :: (f r).drop (j + 1) ++ (rs.drop (i + 1)).flatMap f)).Nodup := by
    rw [List.append_assoc, ← List.append_assoc ((f r).take j), ← e2]
    exact hn
  intro hm
  exact (List.nodup_append.mp hn').2.2 x hm x (by simp) rfl
theorem pre_len {α β : Type} {f : α → List β} {rs : List α} {i j : Nat} {r : α} (hr : rs[i]? = some r) : ((rs.take i).flatMap f ++ (f r).take j).length ≤ (rs.flatMap f).length := by
  have e1 : rs = rs.take i ++ r :: rs.drop (i + 1) := by
    obtain ⟨hi, e⟩ := List.getElem?_eq_some_iff.mp hr
    rw [← e, List.getElem_cons_drop hi, List.take_append_drop]
  have e3 : (rs.flatMap f).length = ((rs.take i).flatMap f).length + ((f r).length + ((rs.drop (i + 1)).flatMap f).length) := by
    conv => lhs; rw [e1]
    rw [List.flatMap_append, List.flatMap_cons, List.length_append, List.length_append]
  rw [e3, List.length_append, List.length_take]
  omega
end K9

set_option Elab.async false
set_option linter.all false
set_option maxRecDepth 100000
namespace K9
open PySem PySem.Spec PyProof.Rows L2
section
variable {P : Program} {w : World} {K : PySem.W.Frag} {mg : Str → Option Value} {base : Heap}
def spUps : Sp := fun vs H Q _ => ∃ (a : Addr) (L : Lt), vs = [.ref a] ∧ LotAt H a L ∧ LF L ∧ ∀ H' p, Same H H' → UpsAt H' p L → Q (.ref p) H'
theorem rd_ups {a : Addr} {L : Lt} {H : Hp} {Q : VK} {nx : L2.St → Hp → Prop} (hL : LotAt H a L) (lf : LF L) (q : ∀ H' p, Same H H' → UpsAt H' p L → Q (.ref p) H') :
    tSeq (tAsg (tLc (iRng1 (tCons (tOp (rIxT K) (tVar 0) (tC (.int 0))) tNil)) (gName 4) tYes tDNewK [4]) (gName 1))
      (tSeq (tFor (iTup K (tOp (rIxT K) (tVar 0) (tC (.int 1)))) (gTup K 2 (gCons (gName 2) (gCons (gName 3) gNil))) (sDPut (tOp (rIxL K) (tVar 1) (tVar 3)) (tVar 2) (tC (.bl true)))) (tRet (tVar 1)))
      { nx := nx, rt := Q } [some (.ref a), none, none, none, none] H := by
  obtain ⟨b, ts, ha, hb, hp⟩ := hL
  have hfew := lf.few
  refine ⟨.ref a, rfl, a, _, 0, iV L.1, rfl, rfl, .inl (.inl ha), rfl, (L.1 : Int), rfl, by omega, by omega, fun D nD => ?_⟩
  refine lc_range (lo := 0) (n := L.1) (fun i H' => Same H H' ∧ ∃ us : List Addr, us.length = i ∧ H' D = some (.lst (us.map V.ref)) ∧ us.Nodup ∧ ∀ u ∈ us, H' u = some (.dK []) ∧ H u = none) ⟨same_upd nD, [], rfl, upd_same, List.nodup_nil, by simp⟩ ?_ ?_
  · rintro i H' hi ⟨sm, us, hl, hD, nd, hu⟩
    refine ⟨rfl, ?_⟩
    refine yesI ?_
    intro p np
    refine ⟨us.map V.ref, ?_, ?_, ?_⟩
    · rw [upd_ne (ne_of_none hD np)]; exact hD
    · rw [List.length_map]; exact sl_lt (by omega)
    · refine ⟨Same.new (Same.new sm (Same.free sm np)) nD, us ++ [p], by simp [hl], ?_, ?_, ?_⟩
      · rw [upd_same, List.map_append]; rfl
      · refine List.nodup_append.mpr ⟨nd, by simp, fun x hx y hy e => ?_⟩
        have : y = p := by simpa using hy
        rw [e, this] at hx
        rw [(hu p hx).1] at np
        cases np
      · intro u hu'
        rcases List.mem_append.mp hu' with hm | hm
        · have h1 := (hu u hm).1
          refine ⟨?_, (hu u hm).2⟩
          rw [upd_ne (ne_of h1 hD (fun z => nomatch z)), upd_ne (ne_of_none h1 np)]
          exact h1
        · have e : u = p := by simpa using hm
          subst e
          refine ⟨?_, Same.free sm np⟩
          rw [upd_ne (ne_of_none hD np).symm, upd_same]
  · rintro H1 ⟨sm, us, hl, hD, nd, hu⟩
    refine ⟨.ref a, rfl, a, _, 1, .ref b, rfl, rfl, .inl (.inl (sm _ _ ha)), rfl, b, rfl, ⟨_, .inl (.inl (sm _ _ hb))⟩, ?_⟩
    refine for_tup (xs := ts.map V.ref) (fun i σ H' => ∃ y2 y3, σ = [some (.ref a), some (.ref D), y2, y3, none] ∧ Same H H' ∧ H' D = some (.lst (us.map V.ref)) ∧
      ∀ y u, us[y]? = some u → ∃ kvs : List (Key × V), H' u = some (.dK kvs) ∧ kvs.length ≤ i ∧ ∀ x : Nat, (valV kvs (kN x)).isSome = decide ((x, y) ∈ L.2.take i)) ⟨none, none, rfl, sm, hD, fun y u e => ⟨[], (hu u (List.mem_of_getElem? e)).1, Nat.le_refl _, fun x => by simp [valV_nil]⟩⟩ ?_ ?_ ?_
    · rintro i σ H' hi ⟨y2, y3, rfl, sm', hD', hk⟩
      exact .inl (.inl (sm' _ _ hb))
    · rintro i x σ H' hx ⟨y2, y3, rfl, sm', hD', hk⟩
      rw [List.getElem?_map] at hx
      obtain ⟨t, ht, rfl⟩ := Option.map_eq_some_iff.mp hx
      have hi : i < ts.length := (List.getElem?_eq_some_iff.mp ht).1
      rw [pairs_len hp] at hi
      obtain ⟨t', ht', e⟩ := pairs_at hp (List.getElem?_eq_getElem hi)
      rw [ht] at ht'
      cases ht'
      have hin := lf.ok.below _ (List.getElem_mem hi)
      generalize hpe : L.2[i] = p at e hin
      have hu2 : us[p.2]? = some (us[p.2]'(by omega)) := List.getElem?_eq_getElem _
      generalize us[p.2]'(by omega) = u at hu2
      obtain ⟨kvs, h1, h2, h3⟩ := hk _ _ hu2
      refine ⟨t, _, rfl, .inl (.inl (sm' _ _ e)), rfl, iV p.1, _, rfl, iV p.2, _, rfl, rfl, ?_⟩
      refine ⟨.ref D, rfl, iV p.2, rfl, D, _, p.2, .ref u, rfl, rfl, .inl (.inl hD'), atI_nat (by rw [List.getElem?_map, hu2]; rfl), iV p.1, rfl, u, _, rfl, DPut.k (k := kN p.1) h1 (sl_lt (by have := lf.len; omega)), ?_⟩
      have hne : D ≠ u := ne_of hD' h1 (fun z => nomatch z)
      refine ⟨some (iV p.1), some (iV p.2), rfl, Same.new (H1 := H') sm' (hu u (List.mem_of_getElem? hu2)).2, ?_, ?_⟩
      · rw [upd_ne hne]; exact hD'
      · intro y v hv
        have ht1 : L.2.take (i + 1) = L.2.take i ++ [p] := by rw [List.take_add_one, List.getElem?_eq_getElem hi, hpe]; rfl
        by_cases hy : y = p.2
        · subst hy
          rw [hu2] at hv
          cases hv
          refine ⟨_, upd_same, Nat.le_trans (length_putK _ _ _) (by omega), fun x => ?_⟩
          rw [valV_put, ht1]
          by_cases hx' : x = p.1
          · subst hx'
            rw [if_pos rfl]
            simp
          · rw [if_neg fun z => hx' (kN_inj z), h3 x]
            refine decide_eq_decide.mpr ⟨fun z => List.mem_append_left _ z, fun z => ?_⟩
            rcases List.mem_append.mp z with z | z
            · exact z
            · have z : (x, p.2) = p := by simpa using z
              exact absurd (by rw [← z]) hx'
        · obtain ⟨kvs', g1, g2, g3⟩ := hk _ _ hv
          have hvu : v ≠ u := fun z => hy (by
            rw [z] at hv
            exact nd_ix nd hv hu2)
          refine ⟨kvs', by rw [upd_ne hvu]; exact g1, by omega, fun x => ?_⟩
          rw [g3 x, ht1]
          refine decide_eq_decide.mpr ⟨fun z => List.mem_append_left _ z, fun z => ?_⟩
          rcases List.mem_append.mp z with z | z
          · exact z
          · have z : (x, y) = p := by simpa using z
            exact absurd (by rw [← z]) hy
    · rintro σ H' ⟨y2, y3, rfl, sm', hD', hk⟩
      refine ⟨.ref D, rfl, q _ _ sm' ⟨us, hl, hD', fun y u e => ?_⟩⟩
      obtain ⟨kvs, h1, h2, h3⟩ := hk y u e
      refine ⟨kvs, h1, fun x => ?_⟩
      rw [h3 x, List.length_map, pairs_len hp, List.take_length]
      rfl
theorem scLater : FnScope ["lot", "found", "later", "earlier", "mark"] ["lot"] (defScope sLater) := ⟨rfl, rfl, rfl, by decide +kernel, rfl, by decide +kernel, by decide +kernel⟩
theorem ok_later {f : Addr} {fd : FuncData} {k : Nat} (F : Fun K "later_than" "later_than" sLater f fd) (mr : mg "range" = none) : FnOk P w K mg base CX0 (k + 1) f fd ["lot"] spUps := by
  refine F.ok scLater (fun vs H Q E h => ?_) (fun cdv A outer s H vs Q E hr h => ?_)
  · obtain ⟨a, L, rfl, _⟩ := h
    rfl
  · obtain ⟨a, L, rfl, hL, lf, q⟩ := h
    refine ⟨_, pss_cons (ps_setLc (own := [("mark", 4)]) (g := gName 4) (i := 1) rfl scLater.nd rfl rfl (sw_true rfl rfl rfl (by decide +kernel))
        (pi_range1 (by rfl) mr (pa_cons (pe_ix ix_tup (pv 0) pe_int (fun _ _ => rfl)) pa_nil))
        (blkOk_by (own := [("mark", 4)]) (N := ["lot", "found", "later", "earlier", "mark"]) (sc := defScope sLater) (by decide +kernel))
        (fun _ _ _ _ _ => pg_name (i := 4) scLater.nd rfl (.inl rfl)) (fun _ _ _ _ _ => pts_nil) (fun _ _ _ _ _ => pe_dnewK))
      (pss_cons (ps_for PassesOwn.never rfl (pi_tup (pe_ix ix_tup (pv 0) pe_int (fun _ _ => rfl)))
          (pg_tup rfl (pgs_cons (pg_name (i := 2) scLater.nd rfl (.inl rfl)) (pgs_cons (pg_name (i := 3) scLater.nd rfl (.inl rfl)) pgs_nil)))
          (pss_one (ps_dput (hu_of hr) (pe_ix ix_list (pv 1) (pv 3) (fun _ _ => rfl)) (pv 2) pe_bl rfl)))
      (pss_one (ps_ret (pv 1)))), rd_ups hL lf q⟩
theorem scUps : FnScope ["_law_lot_here", "_law_found", "_law_x", "_law_y", "_law_mark"] ["_law_lot_here"] (defScope sUps) := ⟨rfl, rfl, rfl, by decide +kernel, rfl, by decide +kernel, by decide +kernel⟩
theorem ok_ups {f : Addr} {fd : FuncData} {k : Nat} (F : Fun K "_law_ups" "_law_ups" sUps f fd) (mr : mg "range" = none) : FnOk P w K mg base CX0 (k + 1) f fd ["_law_lot_here"] spUps := by
  refine F.ok scUps (fun vs H Q E h => ?_) (fun cdv A outer s H vs Q E hr h => ?_)
  · obtain ⟨a, L, rfl, _⟩ := h
    rfl
  · obtain ⟨a, L, rfl, hL, lf, q⟩ := h
    refine ⟨_, pss_cons (ps_setLc (own := [("_law_mark", 4)]) (g := gName 4) (i := 1) rfl scUps.nd rfl rfl (sw_true rfl rfl rfl (by decide +kernel))
        (pi_range1 (by rfl) mr (pa_cons (pe_ix ix_tup (pv 0) pe_int (fun _ _ => rfl)) pa_nil))
        (blkOk_by (own := [("_law_mark", 4)]) (N := ["_law_lot_here", "_law_found", "_law_x", "_law_y", "_law_mark"]) (sc := defScope sUps) (by decide +kernel))
        (fun _ _ _ _ _ => pg_name (i := 4) scUps.nd rfl (.inl rfl)) (fun _ _ _ _ _ => pts_nil) (fun _ _ _ _ _ => pe_dnewK))
      (pss_cons (ps_for PassesOwn.never rfl (pi_tup (pe_ix ix_tup (pv 0) pe_int (fun _ _ => rfl)))
          (pg_tup rfl (pgs_cons (pg_name (i := 2) scUps.nd rfl (.inl rfl)) (pgs_cons (pg_name (i := 3) scUps.nd rfl (.inl rfl)) pgs_nil)))
          (pss_one (ps_dput (hu_of hr) (pe_ix ix_list (pv 1) (pv 3) (fun _ _ => rfl)) (pv 2) pe_bl rfl)))
      (pss_one (ps_ret (pv 1)))), rd_ups hL lf q⟩
end
end K9

set_option Elab.async false
set_option linter.all false
set_option maxRecDepth 100000
namespace K9
open PySem PySem.Spec PyProof.Rows L2
section
variable {P : Program} {w : World} {K : PySem.W.Frag} {mg : Str → Option Value} {base : Heap}
def spParts : Sp := fun vs H Q _ => ∃ (a : Addr) (r : List Nat) (x : Nat), vs = [.ref a, iV x] ∧ H a = some (.tup (rV r)) ∧ r.length ≤ 1000 ∧ ∀ H' p ts, Same H H' → H p = none → H' p = some (.lst (ts.map V.ref)) → RowsAt H' ts (leav r x) → Q (.ref p) H'
theorem scParts : FnScope ["row", "mark", "at"] ["row", "mark"] (defScope sParts) := ⟨rfl, rfl, rfl, by decide +kernel, rfl, by decide +kernel, by decide +kernel⟩
theorem leav_get {r : List Nat} {x i : Nat} (h : i < r.length) : (leav r x)[i]? = some (r.take i ++ r.drop (i + 1) ++ [x]) := by
  unfold leav
  rw [List.getElem?_map, List.getElem?_range h]
  rfl
theorem leav_len (r : List Nat) (x : Nat) : (leav r x).length = r.length := by unfold leav; rw [List.length_map, List.length_range]
theorem ok_parts {f : Addr} {fd : FuncData} {k : Nat} (F : Fun K "parts_with" "parts_with" sParts f fd) (mr : mg "range" = none) (ml : mg "len" = none) : FnOk P w K mg base CX0 (k + 1) f fd ["row", "mark"] spParts := by
  refine F.ok scParts (fun vs H Q E h => ?_) (fun cdv A outer s H vs Q E hr h => ?_)
  · obtain ⟨a, r, x, rfl, _⟩ := h
    rfl
  · obtain ⟨a, r, x, rfl, ha, hl, q⟩ := h
    refine ⟨_, pss_one (ps_ret (pe_lc (own := [("at", 2)]) (g := gName 2) (te := tOp (rCatA K) (tOp (rCatA K) (tSl (rSlA K) (tVar 0) tNoPart (tPart (tVar 2))) (tSl (rSlA K) (tVar 0) (tPart (tOp (rI0 fun i j => .int (i + j)) (tVar 2) (tC (.int 1)))) tNoPart)) (tTup (tCons (tVar 1) tNil))) rfl scParts.nd (pi_range1 (by rfl) mr (pa_cons (pe_callB call_len_seq (by rfl) ml PySem.boot_len (pa_cons (pv 0) pa_nil)) pa_nil))
      (blkOk_by (own := [("at", 2)]) (N := ["row", "mark", "at"]) (sc := defScope sParts) (by decide +kernel))
      (fun _ _ _ _ _ => pg_name (i := 2) scParts.nd rfl (.inl rfl)) (fun _ _ _ _ _ => pts_nil)
      (fun _ _ _ _ _ => pe_op op_catA (pe_op op_catA (pe_slice sl_tupA (pv 0) po_none (po_some (pv 2))) (pe_slice sl_tupA (pv 0) (po_some (pe_op op_add (pv 2) pe_int)) po_none)) (pe_tup (pa_cons (pv 1) pa_nil))))), ?_⟩
    refine ⟨.ref a, rfl, a, _, rfl, .inr (.inl (.inl ha)), ((rV r).length : Int), rfl, by rw [rV_len]; omega, by rw [rV_len]; omega, fun D nD => ?_⟩
    refine lc_range (lo := 0) (n := (rV r).length) (fun i H' => Same H H' ∧ ∃ ts, H' D = some (.lst (ts.map V.ref)) ∧ RowsAt H' ts ((leav r x).take i)) ⟨same_upd nD, [], upd_same, .nil⟩ ?_ ?_
    · rintro i H1 hi ⟨sm, ts, hD, ht⟩
      rw [rV_len] at hi
      refine ⟨rfl, yesI ?_⟩
      have ei : (0 : Int) + (i : Int) = (i : Int) := by omega
      refine ⟨.ref a, rfl, .int (0 + (i : Int)), rfl, _, rfl, slA (sm _ _ ha) fun H2 p2 s2 e2 => ?_⟩
      refine ⟨.ref a, rfl, .int (0 + (i : Int)), rfl, _, _, rfl, rfl, _, rfl, ?_⟩
      unfold tNoPart
      dsimp only
      refine slA (s2 _ _ (sm _ _ ha)) fun H3 p3 s3 e3 => ?_
      rw [ei, cut_to] at e2
      rw [ei, show (i : Int) + 1 = ((i + 1 : Nat) : Int) by omega, cut_from] at e3
      have hlen : (rV (r.take i)).length + (rV (r.drop (i + 1))).length ≤ 1000 := by rw [rV_len, rV_len, List.length_take, List.length_drop]; omega
      refine catA (s3 _ _ e2) e3 (sl_le (by omega)) fun H4 p4 s4 e4 => ?_
      refine ⟨iV x, rfl, by show 1 ≤ sizeLine; decide, fun p5 n5 => ?_⟩
      have s5 : Same H4 (upd H4 p5 (.tup [iV x])) := same_upd n5
      refine catA (s5 _ _ e4) upd_same (by rw [List.length_append]; exact sl_le (by simp; omega)) fun H6 p6 s6 e6 => ?_
      have s16 : Same H1 H6 := ((((s2.trans s3).trans s4).trans s5).trans s6)
      have tD := s16 _ _ hD
      refine ⟨ts.map V.ref, tD, ?_, Same.new (Same.trans sm s16) nD, ts ++ [p6], ?_, ?_⟩
      · rw [List.length_map, ht.len, List.length_take]; exact sl_lt (by omega)
      · rw [upd_same, List.map_append]; rfl
      · rw [take_next (leav_get hi)]
        refine ((ht.ts (TSame.of s16)).snoc ?_).ts (TSame.upd tD fun _ z => nomatch z)
        rw [e6, rV_app, rV_app]
        rfl
    · rintro H1 ⟨sm, ts, hD, ht⟩
      rw [rV_len, ← leav_len r x, List.take_length] at ht
      exact q H1 D ts sm nD hD ht
end
end K9

set_option Elab.async false
set_option linter.all false
set_option maxRecDepth 100000
namespace K9
open PySem PySem.Spec PyProof.Rows L2
section
variable {P : Program} {w : World} {K : PySem.W.Frag} {mg : Str → Option Value} {base : Heap}
def spLevels : Sp := fun vs H Q _ => ∃ (a : Addr) (L : Lt) (k : Nat), vs = [.ref a, iV k] ∧ LotAt H a L ∧ LF L ∧ k ≤ 4 ∧
  ∀ H' p (ds : List Addr) (d : Addr), Same H H' → H' p = some (.lst ((ds ++ [d]).map V.ref)) → LevAt H' d L k → Q (.ref p) H'
theorem scLevels : FnScope ["lot", "most", "later", "found", "size", "here", "row", "marks", "mark", "other"] ["lot", "most"] (defScope sLevels) := ⟨rfl, rfl, rfl, by decide +kernel, rfl, by decide +kernel, by decide +kernel⟩
theorem rg_range (m : Nat) : rgV 0 (m : Int) = rV (List.range m) := by
  unfold rgV rV
  rw [show ((m : Int) - 0).toNat = m by omega]
  refine List.map_congr_left fun i _ => ?_
  show V.int (0 + (i : Int)) = V.int (i : Int)
  rw [Int.zero_add]
theorem ok_levels {f fL : Addr} {fd fdL : FuncData} (F : Fun K "levels" "levels" sLevels f fd) (CL : Cal P w K mg base "later_than" 1 ["lot"] spUps fL fdL) (mr : mg "range" = none) (mli : mg "list" = none) :
    FnOk P w K mg base CX0 2 f fd ["lot", "most"] spLevels := by
  refine F.ok scLevels (fun vs H Q E h => ?_) (fun cdv A outer s H vs Q E hr h => ?_)
  · obtain ⟨a, L, k, rfl, _⟩ := h
    rfl
  · obtain ⟨a, L, k, rfl, hL, lf, hk, q⟩ := h
    refine ⟨_, pss_cons (ps_set (i := 2) scLevels.nd rfl (.inr rfl) (pe_call CL.ok hr (by rfl) CL.g CL.kp CL.b .nil pass0 (pa_cons (pv 0) pa_nil)))
      (pss_cons (ps_set (i := 3) scLevels.nd rfl (.inl rfl) (pe_lst (pa_cons (pe_dict1 hr.units0 (pe_tup pa_nil) (pe_listRg rfl (by rfl) mli (prg_1 (by rfl) mr (pe_ix ix_tup (pv 0) pe_int (fun _ _ => rfl))))) pa_nil)))
      (pss_cons (ps_for PassesOwn.never rfl (pi_range1 (by rfl) mr (pa_cons (pv 1) pa_nil)) (pg_name (i := 4) scLevels.nd rfl (.inl rfl))
        (pss_cons (ps_set (i := 5) scLevels.nd rfl (.inl rfl) pe_dnewT)
        (pss_cons (ps_lock (ps_for PassesOwn.never rfl (pi_itemsT (pe_ix ix_list (pv 3) (pe_un un_neg pe_int) (fun _ _ => rfl)))
            (pg_tup rfl (pgs_cons (pg_name (i := 6) scLevels.nd rfl (.inl rfl)) (pgs_cons (pg_name (i := 7) scLevels.nd rfl (.inl rfl)) pgs_nil)))
            (pss_one (ps_for PassesOwn.never rfl (pi_list (pv 7)) (pg_name (i := 8) scLevels.nd rfl (.inr rfl))
              (pss_one (ps_dput (hu_of hr) (pv 5) (pe_op op_catA (pv 6) (pe_tup (pa_cons (pv 8) pa_nil)))
                (pe_lc (own := [("other", 9)]) (g := gName 9) (tt := tB (tDIn (tVar 9) (tOp (rIxL K) (tVar 2) (tVar 8)))) (te := tVar 9) rfl scLevels.nd (pi_list (pv 7))
                  (blkOk_by (own := [("other", 9)]) (N := ["lot", "most", "later", "found", "size", "here", "row", "marks", "mark", "other"]) (sc := defScope sLevels) (by decide +kernel))
                  (fun _ _ _ _ _ => pg_name (i := 9) scLevels.nd rfl (.inl rfl)) (fun _ _ _ _ _ => pts_one (pt_cmp (pc_din (hu_of hr) (pv 9) (pe_ix ix_list (pv 2) (pv 8) (fun _ _ => rfl))))) (fun _ _ _ _ _ => pv 9)) rfl))))))
        (pss_one (ps_expr (pe_bm PySem.F.plainAttrs_list PySem.F.slot_list_append PySem.F.type_list_append mt_append (pv 3) (pa_cons (pv 5) pa_nil)))))))
      (pss_one (ps_ret (pv 3))))), ?_⟩
    have hfew := lf.few
    refine ⟨.ref a, rfl, a, L, rfl, hL, lf, fun H1 u sm1 hU => ?_⟩
    obtain ⟨us, hul, hua, hud⟩ := hU
    have hL1 := hL.same sm1
    obtain ⟨lb, lts, hla, _⟩ := id hL1
    -- found = [{(): list(range(lot[0]))}]
    refine (fun d nd => ?_)
    refine ⟨Nat.zero_le _, fun t0 n0 => ?_⟩
    have sA : Same H1 (upd (upd H1 d (.dT [])) t0 (.tup [])) := Same.trans (same_upd nd) (same_upd n0)
    refine ⟨.ref a, rfl, a, _, 0, iV L.1, rfl, rfl, .inl (.inl (sA _ _ hla)), rfl, (L.1 : Int), rfl, RgOk.of_le (by omega) (by omega) (by omega) (by omega), fun m nm => ?_⟩
    have sB : Same (upd (upd H1 d (.dT [])) t0 (.tup [])) (upd (upd (upd H1 d (.dT [])) t0 (.tup [])) m (.lst (rgV 0 L.1))) := same_upd nm
    have ed : (upd (upd H1 d (.dT [])) t0 (.tup [])) d = some (.dT []) := same_upd n0 _ _ upd_same
    refine ⟨sB _ _ ed, t0, [], rfl, sB _ _ upd_same, by show 1 ≤ sizeLine; decide, fun D nD => ?_⟩
    have dne : D ≠ d := fun z => by
      rw [z, upd_same] at nD
      cases nD
    rw [upd_ne dne] at nD
    have mne : m ≠ d := fun z => by
      rw [z, ed] at nm
      cases nm
    have nD1 : H1 D = none := (Same.trans sA sB).free nD
    have s0 : Same H1 (upd (upd (upd (upd (upd H1 d (.dT [])) t0 (.tup [])) m (.lst (rgV 0 L.1))) d (.dT [([], .ref m)])) D (.lst [.ref d])) := Same.new (Same.new (Same.trans sA sB) nd) nD1
    have eD0 : (upd (upd (upd (upd (upd H1 d (.dT [])) t0 (.tup [])) m (.lst (rgV 0 L.1))) d (.dT [([], .ref m)])) D (.lst [.ref d])) D = some (.lst [.ref d]) := upd_same
    have ed0 : (upd (upd (upd (upd (upd H1 d (.dT [])) t0 (.tup [])) m (.lst (rgV 0 L.1))) d (.dT [([], .ref m)])) D (.lst [.ref d])) d = some (.dT [([], .ref m)]) := by
      rw [upd_ne dne.symm, upd_same]
    have mneD : m ≠ D := fun z => by
      rw [← z, upd_same] at nD
      cases nD
    have em0 : (upd (upd (upd (upd (upd H1 d (.dT [])) t0 (.tup [])) m (.lst (rgV 0 L.1))) d (.dT [([], .ref m)])) D (.lst [.ref d])) m = some (.lst (rV (aboveL L []))) := by
      rw [upd_ne mneD, upd_ne mne, upd_same, rg_range, above_nil]
    generalize (upd (upd (upd (upd (upd H1 d (.dT [])) t0 (.tup [])) m (.lst (rgV 0 L.1))) d (.dT [([], .ref m)])) D (.lst [.ref d])) = H5 at s0 eD0 ed0 em0
    -- for size in range(most)
    refine ⟨iV k, rfl, (k : Int), rfl, by omega, by omega, ?_⟩
    refine for_range (lo := 0) (n := k) (fun i σ H' => ∃ y4 y5 y6 y7 y8 y9, σ = [some (.ref a), some (iV k), some (.ref u), some (.ref D), y4, y5, y6, y7, y8, y9] ∧ Same H1 H' ∧
      ∃ ds0 d, H' D = some (.lst ((ds0 ++ [d]).map V.ref)) ∧ ds0.length = i ∧ H1 d = none ∧ LevAt H' d L i) ⟨none, none, none, none, none, none, rfl, s0, [], d, eD0, rfl, nd, _, ed0, .cons ⟨rfl, m, rfl, em0⟩ .nil⟩ ?_ ?_
    · rintro i σ H' hi ⟨y4, y5, y6, y7, y8, y9, rfl, sm, ds0, d, hD, hds, nd1, kvs, hd, hlev⟩
      refine (fun ph nph => ?_)
      have hd2 : (upd H' ph (.dT [])) d = some (.dT kvs) := same_upd nph _ _ hd
      have hphd : ph ≠ d := (ne_of_none hd nph).symm
      refine ⟨d, .dT kvs, hd2, trivial, fun od => ?_⟩
      have hD3 : (upd (upd H' ph (.dT [])) d (.frz od (.dT kvs))) D = some (.lst ((ds0 ++ [d]).map V.ref)) := by
        rw [upd_ne (ne_of hD hd fun z => nomatch z), upd_ne (ne_of_none hD nph)]
        exact hD
      have hrl := rows_few lf.few (k := i + 1) (by omega)
      refine ⟨.ref D, rfl, 1, rfl, D, _, -1, .ref d, rfl, rfl, .inl (.inl hD3), by rw [List.map_append]; exact atI_last _ _, d, od, kvs, rfl, upd_same, ?_⟩
      refine for_itemsT (fun i2 σ' H'' => ∃ y6 y7 y8 y9, σ' = [some (.ref a), some (iV k), some (.ref u), some (.ref D), some (.int (0 + (i : Int))), some (.ref ph), y6, y7, y8, y9] ∧ Same H1 H'' ∧ H'' D = some (.lst ((ds0 ++ [d]).map V.ref)) ∧
        H'' d = some (.frz od (.dT kvs)) ∧ LevP H'' L kvs (rowsL L i) ∧ ∃ kvh, H'' ph = some (.dT kvh) ∧ LevP H'' L kvh (((rowsL L i).take i2).flatMap (extL L))) ?_ ?_ ?_ ?_
      · refine ⟨y6, y7, y8, y9, rfl, Same.new (Same.new sm (Same.free sm nph)) nd1, hD3, upd_same, (hlev.ls (LSame.new nph)).ls (LSame.upd hd2 fun _ z => nomatch z), [], ?_, .nil⟩
        rw [upd_ne hphd, upd_same]
      · rintro i2 σ' H'' hi2 ⟨_, _, _, _, rfl, _, _, e, _⟩
        exact e
      · rintro i2 kk v qa T σ' H'' hkv ⟨y6, y7, y8, y9, rfl, sm2, hD', hd', hlev', kvh, hph, hlh⟩ hq nT
        obtain ⟨r, m2, hr2, rfl, rfl, hm⟩ := hlev'.get hkv
        rw [rk_kV] at hq
        have sT : Same H'' (upd H'' T (.tup [.ref qa, .ref m2])) := same_upd nT
        refine ⟨T, [.ref qa, .ref m2], rfl, .inl (.inl upd_same), rfl, .ref qa, [.ref m2], rfl, .ref m2, [], rfl, rfl, ?_⟩
        refine ⟨.ref m2, rfl, m2, rfl, ⟨_, .inl (.inl (sT _ _ hm))⟩, ?_⟩
        refine for_list (xs := rV (aboveL L r)) (fun j σ'' H5 => ∃ y8 y9, σ'' = [some (.ref a), some (iV k), some (.ref u), some (.ref D), some (.int (0 + (i : Int))), some (.ref ph), some (.ref qa), some (.ref m2), y8, y9] ∧ Same H1 H5 ∧ H5 D = some (.lst ((ds0 ++ [d]).map V.ref)) ∧
          H5 d = some (.frz od (.dT kvs)) ∧ LevP H5 L kvs (rowsL L i) ∧ H5 qa = some (.tup (rV r)) ∧ H5 m2 = some (.lst (rV (aboveL L r))) ∧ ∃ kvh, H5 ph = some (.dT kvh) ∧ LevP H5 L kvh (((rowsL L i).take i2).flatMap (extL L) ++ (extL L r).take j)) ?_ ?_ ?_ ?_
        · refine ⟨y8, y9, rfl, Same.trans sm2 sT, sT _ _ hD', sT _ _ hd', hlev'.ls (.of sT), sT _ _ hq, sT _ _ hm, kvh, sT _ _ hph, ?_⟩
          rw [List.take_zero, List.append_nil]
          exact hlh.ls (.of sT)
        · rintro j σ'' H5 hj ⟨_, _, rfl, _, _, _, _, _, e, _⟩
          exact .inl (.inl e)
        · rintro j x σ'' H5 hx ⟨y8, y9, rfl, sm5, hD5, hd5, hlev5, hq5, hm5, kvh, hph5, hlh5⟩
          obtain ⟨y, hy, rfl⟩ := get_iV hx
          have hyL : DL L y := (mem_above.mp (List.mem_of_getElem? hy)).1
          have hyu : us[y]? = some (us[y]'(by rw [hul]; exact hyL)) := List.getElem?_eq_getElem _
          generalize us[y]'(by rw [hul]; exact hyL) = uu at hyu
          obtain ⟨kvu, hku, hlat⟩ := hud y uu hyu
          refine ⟨.ref m2, rfl, m2, rfl, ⟨_, .inl (.inl hm5)⟩, fun E nE => ?_⟩
          refine lc_list (xs := rV (aboveL L r)) (fun n H6 => H6 = upd H5 E (.lst (rV (((aboveL L r).take n).filter fun z => lat L z y)))) rfl ?_ ?_ ?_
          · rintro n H6 hn rfl
            exact .inl (.inl (same_upd nE _ _ hm5))
          · rintro n x H6 hx rfl
            obtain ⟨z, hz, rfl⟩ := get_iV hx
            have s6 : Same H1 (upd H5 E (.lst (rV (((aboveL L r).take n).filter fun z => lat L z y)))) := Same.trans sm5 (same_upd nE)
            refine ⟨rfl, iV z, rfl, .ref u, rfl, iV y, rfl, u, _, y, .ref uu, rfl, rfl, .inl (.inl (s6 _ _ hua)), atI_nat (by rw [List.getElem?_map, hyu]; rfl), uu, _, rfl, DGet.k (k := kN z) (s6 _ _ hku), _, rfl, ?_⟩
            rw [hlat z, take_next hz, List.filter_append]
            refine ite2 (fun c => ?_) (fun c => ?_)
            · refine ⟨iV z, rfl, _, upd_same, ?_, ?_⟩
              · rw [rV_len]
                have h1 := (List.filter_sublist (l := (aboveL L r).take n) (p := fun z => lat L z y)).length_le
                have h2 := List.length_take_le n (aboveL L r)
                have h3 := above_len L r
                rw [List.length_take] at h1
                exact sl_lt (by omega)
              · have e1 : [z].filter (fun z => lat L z y) = [z] := by simp [c]
                rw [upd_upd, e1, rV_app]
                rfl
            · have e1 : [z].filter (fun z => lat L z y) = [] := by simp [c]
              rw [e1, List.append_nil]
          · rintro H6 rfl
            rw [rV_len, List.take_length, ← above_snoc]
            have s5 : Same H5 (upd H5 E (.lst (rV (aboveL L (r ++ [y]))))) := same_upd nE
            have nE1 : H1 E = none := Same.free sm5 nE
            generalize hH6 : upd H5 E (.lst (rV (aboveL L (r ++ [y])))) = H6 at s5
            have hE6 : H6 E = some (.lst (rV (aboveL L (r ++ [y])))) := by rw [← hH6]; exact upd_same
            refine ⟨.ref ph, rfl, .ref qa, rfl, iV y, rfl, by show 1 ≤ sizeLine; decide, fun t1 nt1 => ?_⟩
            have s7 : Same H6 (upd H6 t1 (.tup [iV y])) := same_upd nt1
            have hrr := mem_rows.mp (List.mem_of_getElem? hr2)
            refine catA (s7 _ _ (s5 _ _ hq5)) upd_same (by rw [rV_len, hrr.2]; show i + 1 ≤ sizeLine; exact sl_le (by omega)) fun H8 tk s8 e8 => ?_
            have s58 : Same H5 H8 := Same.trans (Same.trans s5 s7) s8
            have hx2 : (extL L r)[j]? = some (r ++ [y]) := by unfold extL; rw [List.getElem?_map, hy]; rfl
            have hnew := new_row (rows_nodup L (i + 1)) hr2 hx2
            have hlen := Paired.length hlh5
            have hpl := pre_len (f := extL L) (j := j) hr2
            have hpl : (((rowsL L i).take i2).flatMap (extL L) ++ (extL L r).take j).length ≤ (rowsL L (i + 1)).length := hpl
            refine ⟨ph, _, rfl, DPut.t (k := rk (r ++ [y])) (s58 _ _ hph5) (by rw [e8, rk_kV, rV_app]; rfl) (by rw [hlen]; exact sl_lt (by omega)), ?_⟩
            rw [putK_new _ (keys_none hlh5 hnew)]
            have tph : TSame H8 (upd H8 ph (.dT (kvh ++ [(rk (r ++ [y]), V.ref E)]))) := TSame.upd (s58 _ _ hph5) fun _ z => nomatch z
            have lph : LSame H8 (upd H8 ph (.dT (kvh ++ [(rk (r ++ [y]), V.ref E)]))) := LSame.upd (s58 _ _ hph5) fun _ z => nomatch z
            have nph1 : H1 ph = none := Same.free sm nph
            refine ⟨some (iV y), y9, rfl, Same.new (Same.trans sm5 s58) nph1, ?_, ?_, (hlev5.ls (.of s58)).ls lph, tph _ _ (s58 _ _ hq5), lph _ _ (s58 _ _ hm5), _, upd_same, ?_⟩
            · rw [upd_ne (ne_of (s58 _ _ hD5) (s58 _ _ hph5) fun z => nomatch z)]; exact s58 _ _ hD5
            · rw [upd_ne (ne_of (s58 _ _ hd5) (s58 _ _ hph5) fun z => nomatch z)]; exact s58 _ _ hd5
            · rw [take_next hx2, ← List.append_assoc]
              refine Paired.snoc ((hlh5.ls (.of s58)).ls lph) ⟨rfl, E, rfl, lph _ _ ((Same.trans s7 s8) _ _ hE6)⟩
        · rintro σ'' H5 ⟨y8, y9, rfl, sm5, hD5, hd5, hlev5, hq5, hm5, kvh, hph5, hlh5⟩
          refine ⟨some (.ref qa), some (.ref m2), y8, y9, rfl, sm5, hD5, hd5, hlev5, kvh, hph5, ?_⟩
          rw [rV_len, show (aboveL L r).length = (extL L r).length by unfold extL; rw [List.length_map], List.take_length] at hlh5
          rw [take_next hr2, List.flatMap_append, List.flatMap_cons, List.flatMap_nil, List.append_nil]
          exact hlh5
      · rintro σ' H'' ⟨y6, y7, y8, y9, rfl, sm2, hD', hd', hlev', kvh, hph, hlh⟩
        have hlk := Paired.length hlev'
        rw [hlk, List.take_length] at hlh
        refine ⟨hd', ?_⟩
        have hDu : (upd H'' d (.dT kvs)) D = some (.lst ((ds0 ++ [d]).map V.ref)) := by rw [upd_ne (ne_of hD' hd' fun z => nomatch z)]; exact hD'
        have hphu : (upd H'' d (.dT kvs)) ph = some (.dT kvh) := by rw [upd_ne hphd]; exact hph
        have sm3 : Same H1 (upd H'' d (.dT kvs)) := Same.new sm2 nd1
        have hlh3 : LevP (upd H'' d (.dT kvs)) L kvh (rowsL L (i + 1)) := LevP.ls hlh (LSame.upd hd' fun _ z => nomatch z)
        refine ⟨.ref D, rfl, .inl ⟨rfl, _, .inl (.inl hDu)⟩, .ref ph, rfl, D, _, .ref ph, rfl, rfl, hDu, by rw [List.length_map, List.length_append, hds]; exact sl_lt (by simp; omega), ?_⟩
        refine ⟨_, _, y6, y7, y8, y9, rfl, Same.new sm3 nD1, ds0 ++ [d], ph, ?_, by simp [hds], Same.free sm nph, kvh, ?_, hlh3.ls (LSame.upd hDu fun ys => rV_refs)⟩
        · rw [upd_same, List.map_append (l₁ := ds0 ++ [d])]
          rfl
        · rw [upd_ne (ne_of hphu hDu fun z => nomatch z)]; exact hphu
    · rintro σ H' ⟨y4, y5, y6, y7, y8, y9, rfl, sm, ds0, d, hD, hds, nd1, hlev⟩
      exact ⟨.ref D, rfl, q H' D ds0 d (Same.trans sm1 sm) hD hlev⟩
end
end K9

set_option Elab.async false
set_option linter.all false
set_option maxRecDepth 100000
namespace K9
open PySem PySem.Spec PyProof.Rows L2
/-! ### rows as data -/
def dR (r : List Nat) : PyData := .tuple ((r.map fun n : Nat => (n : Int)).map .int)
theorem rV_ints (r : List Nat) : rV r = (r.map fun n : Nat => (n : Int)).map V.int := by
  unfold rV
  rw [List.map_map]
  rfl
theorem dp_row {K : PySem.W.Frag} {H : Hp} {t : Addr} {r : List Nat} (h : H t = some (.tup (rV r))) : Dp K H (.ref t) (dR r) := by
  rw [rV_ints] at h
  exact .tup (.inl (.inl h)) (dp_ints _)
theorem dp_rows {K : PySem.W.Frag} {H : Hp} {ts : List Addr} {rs : List (List Nat)} (h : RowsAt H ts rs) : DpAll K H (ts.map V.ref) (rs.map dR) := by
  unfold RowsAt at h
  induction h with
  | nil => exact .nil
  | cons h1 h2 ih => exact .cons (dp_row h1) ih
theorem lay_ints : ∀ ns : List Int, PyData.canLayAll0 (ns.map PyData.int) = true
  | [] => by simp only [List.map_nil, PyData.canLayAll0]
  | n :: ns => by simp only [List.map_cons, PyData.canLayAll0, PyData.canLay0, lay_ints ns, Bool.and_self]
theorem lay_rows : ∀ rs : List (List Nat), PyData.canLayAll0 (rs.map dR) = true
  | [] => by simp only [List.map_nil, PyData.canLayAll0]
  | r :: rs => by simp only [List.map_cons, PyData.canLayAll0, dR, PyData.canLay0, lay_ints, lay_rows rs, Bool.and_self]
theorem depth_rows : ∀ rs : List (List Nat), PyData.depthAll (rs.map dR) ≤ 1
  | [] => by simp only [List.map_nil, PyData.depthAll]; omega
  | r :: rs => by
    have h1 := depth_rows rs
    have h2 := PySem.W.depth_ints (r.map fun n : Nat => (n : Int))
    simp only [List.map_cons, PyData.depthAll, dR, PyData.depth, h2]
    omega
theorem shaped_list (rs : List (List Nat)) : SeqAt.shaped (.list (rs.map dR)) = true := by
  have h := depth_rows rs
  unfold SeqAt.shaped
  rw [Bool.and_eq_true]
  exact ⟨by simp only [PyData.canLay0, lay_rows], decide_eq_true (by simp only [PyData.depth]; omega)⟩
theorem shaped_tuple (rs : List (List Nat)) : SeqAt.shaped (.tuple (rs.map dR)) = true := by
  have h := depth_rows rs
  unfold SeqAt.shaped
  rw [Bool.and_eq_true]
  exact ⟨by simp only [PyData.canLay0, lay_rows], decide_eq_true (by simp only [PyData.depth]; omega)⟩
theorem eqv_rows0 (rs : List (List Nat)) : PyData.eqvAll (rs.map dR) [] = decide (rs = []) := by
  cases rs with
  | nil => simp [PyData.eqvAll]
  | cons r rs => simp [PyData.eqvAll]
/-! ### what is waited for -/
abbrev Ev := (List Nat × Nat) × List Nat
def waitOf (E : List Ev) (s : List Nat) : List (List Nat × Nat) := (E.filter fun e => decide (e.2 = s)).map (·.1)
theorem wait_snoc (E : List Ev) (e : List Nat × Nat) (s t : List Nat) : waitOf (E ++ [(e, s)]) t = if s = t then waitOf E t ++ [e] else waitOf E t := by
  unfold waitOf
  rw [List.filter_append, List.map_append]
  by_cases h : s = t
  · rw [if_pos h]
    simp [h]
  · rw [if_neg h]
    simp [h]
theorem mem_wait {E : List Ev} {s : List Nat} {e : List Nat × Nat} : e ∈ waitOf E s ↔ (e, s) ∈ E := by
  unfold waitOf
  rw [List.mem_map]
  constructor
  · rintro ⟨⟨a, b⟩, h1, h2⟩
    obtain ⟨h3, h4⟩ := List.mem_filter.mp h1
    have h4 : b = s := by simpa using h4
    have h2 : a = e := h2
    rw [← h2, ← h4]
    exact h3
  · intro h
    exact ⟨(e, s), List.mem_filter.mpr ⟨h, by simp⟩, rfl⟩
def evMark (r : List Nat) (m : Nat) : List Ev := (leav r m).map fun s => ((r, m), s)
def evRow (L : Lt) (r : List Nat) : List Ev := (aboveL L r).flatMap (evMark r)
def evs (L : Lt) (rs : List (List Nat)) : List Ev := rs.flatMap (evRow L)
theorem mem_evs {L : Lt} {rs : List (List Nat)} {r s : List Nat} {m : Nat} : ((r, m), s) ∈ evs L rs ↔ r ∈ rs ∧ m ∈ aboveL L r ∧ s ∈ leav r m := by
  unfold evs evRow evMark
  constructor
  · intro h
    obtain ⟨r', hr, h⟩ := List.mem_flatMap.mp h
    obtain ⟨m', hm, h⟩ := List.mem_flatMap.mp h
    obtain ⟨s', hs, e⟩ := List.mem_map.mp h
    cases e
    exact ⟨hr, hm, hs⟩
  · rintro ⟨hr, hm, hs⟩
    exact List.mem_flatMap.mpr ⟨r, hr, List.mem_flatMap.mpr ⟨m, hm, List.mem_map.mpr ⟨s, hs, rfl⟩⟩⟩
theorem len_evs {L : Lt} (h9 : L.1 ≤ 9) {k : Nat} (h4 : k ≤ 4) : (evs L (rowsL L k)).length ≤ 300000 := by
  have h1 := rows_few h9 h4
  have key : ∀ rs : List (List Nat), (∀ r ∈ rs, r.length = k) → (evs L rs).length ≤ rs.length * 36 := fun rs => by
    induction rs with
    | nil => intro _; simp [evs]
    | cons r rs ih =>
      intro hl
      have ih := ih fun r' h' => hl r' (by simp [h'])
      have hr := hl r (by simp)
      have h2 : (evRow L r).length ≤ 36 := by
        have g : ∀ ms : List Nat, (ms.flatMap (evMark r)).length = ms.length * k := fun ms => by
          induction ms with
          | nil => simp
          | cons m ms ih =>
            rw [List.flatMap_cons, List.length_append, ih, List.length_cons, Nat.succ_mul]
            have : (evMark r m).length = k := by unfold evMark; rw [List.length_map, leav_len, hr]
            omega
        have g2 := above_len L r
        unfold evRow
        rw [g]
        have : (aboveL L r).length * k ≤ 9 * 4 := Nat.mul_le_mul (by omega) h4
        omega
      unfold evs at ih ⊢
      rw [List.flatMap_cons, List.length_append, List.length_cons]
      omega
  have h2 := key (rowsL L k) fun r hr => (mem_rows.mp hr).2
  have : (rowsL L k).length * 36 ≤ 6561 * 36 := Nat.mul_le_mul_right _ h1
  omega
/-! ### the state of the peeling -/
/-- the marks still good -/
def gdOf (L : Lt) (g : List Nat → Nat → Bool) (s : List Nat) : List Nat := (aboveL L s).filter (g s)
def gKV (ms : List Nat) : List (Key × V) := ms.map fun m => (kN m, .bl true)
structure GoodAt (H : Hp) (D : Addr) (L : Lt) (rs : List (List Nat)) (ga : List Nat → Addr) (g : List Nat → Nat → Bool) : Prop where
  at_ : ∃ kvs : List (List Key × V), H D = some (.dT kvs) ∧ ∀ s ∈ rs, valV kvs (rk s) = some (.ref (ga s))
  of : ∀ s ∈ rs, H (ga s) = some (.dK (gKV (gdOf L g s)))
theorem GoodAt.same {H H' : Hp} {D : Addr} {L : Lt} {rs : List (List Nat)} {ga : List Nat → Addr} {g : List Nat → Nat → Bool} (h : GoodAt H D L rs ga g) (s : Same H H') : GoodAt H' D L rs ga g :=
  ⟨let ⟨kvs, h1, h2⟩ := h.at_; ⟨kvs, s _ _ h1, h2⟩, fun r hr => s _ _ (h.of r hr)⟩
theorem GoodAt.upd {H : Hp} {D p : Addr} {o u : HO} {L : Lt} {rs : List (List Nat)} {ga : List Nat → Addr} {g : List Nat → Nat → Bool} (h : GoodAt H D L rs ga g) (hp : H p = some u) (hD : D ≠ p) (hu : ∀ z, u ≠ .dK z) : GoodAt (L2.upd H p o) D L rs ga g := by
  refine ⟨?_, fun r hr => ?_⟩
  · obtain ⟨kvs, h1, h2⟩ := h.at_
    exact ⟨kvs, by rw [upd_ne hD]; exact h1, h2⟩
  · have h1 := h.of r hr
    rw [upd_ne (ne_of h1 hp fun z => hu _ z.symm)]
    exact h1
def PrAt (H : Hp) (ts : List Addr) (ws : List (List Nat × Nat)) : Prop := Paired (fun t (e : List Nat × Nat) => ∃ q, H t = some (.tup [.ref q, iV e.2]) ∧ H q = some (.tup (rV e.1))) ts ws
theorem PrAt.ts {H H' : Hp} {ts : List Addr} {ws : List (List Nat × Nat)} (h : PrAt H ts ws) (s : TSame H H') : PrAt H' ts ws := Paired.mapP h fun _ _ ⟨q, h1, h2⟩ => ⟨q, s _ _ h1, s _ _ h2⟩
structure WaitAt (H : Hp) (D : Addr) (rs : List (List Nat)) (wa : List Nat → Addr) (E : List Ev) : Prop where
  at_ : ∃ kvs : List (List Key × V), H D = some (.dT kvs) ∧ ∀ s ∈ rs, valV kvs (rk s) = some (.ref (wa s))
  of : ∀ s ∈ rs, ∃ ts : List Addr, H (wa s) = some (.lst (ts.map V.ref)) ∧ PrAt H ts (waitOf E s)
theorem WaitAt.same {H H' : Hp} {D : Addr} {rs : List (List Nat)} {wa : List Nat → Addr} {E : List Ev} (h : WaitAt H D rs wa E) (s : Same H H') : WaitAt H' D rs wa E :=
  ⟨let ⟨kvs, h1, h2⟩ := h.at_; ⟨kvs, s _ _ h1, h2⟩, fun r hr => let ⟨ts, h1, h2⟩ := h.of r hr; ⟨ts, s _ _ h1, h2.ts (.of s)⟩⟩
theorem WaitAt.upd {H : Hp} {D p : Addr} {o u : HO} {rs : List (List Nat)} {wa : List Nat → Addr} {E : List Ev} (h : WaitAt H D rs wa E) (hp : H p = some u) (hD : D ≠ p) (hu : ∀ z, u ≠ .lst z) (hu2 : ∀ z, u ≠ .tup z) : WaitAt (L2.upd H p o) D rs wa E := by
  refine ⟨?_, fun r hr => ?_⟩
  · obtain ⟨kvs, h1, h2⟩ := h.at_
    exact ⟨kvs, by rw [upd_ne hD]; exact h1, h2⟩
  · obtain ⟨ts, h1, h2⟩ := h.of r hr
    exact ⟨ts, by rw [upd_ne (ne_of h1 hp fun z => hu _ z.symm)]; exact h1, h2.ts (TSame.upd hp hu2)⟩
/-- a dict whose keys are the rows of G, in their order -/
def KeysAt (H : Hp) (D : Addr) (G : List (List Nat)) : Prop := ∃ kvs : List (List Key × V), H D = some (.dT kvs) ∧ Paired (fun (kv : List Key × V) (r : List Nat) => kv.1 = rk r ∧ True) kvs G
theorem KeysAt.same {H H' : Hp} {D : Addr} {G : List (List Nat)} (h : KeysAt H D G) (s : Same H H') : KeysAt H' D G :=
  let ⟨kvs, h1, h2⟩ := h
  ⟨kvs, s _ _ h1, h2⟩
theorem KeysAt.upd {H : Hp} {D p : Addr} {o : HO} {G : List (List Nat)} (h : KeysAt H D G) (hD : D ≠ p) : KeysAt (L2.upd H p o) D G := by
  obtain ⟨kvs, h1, h2⟩ := h
  exact ⟨kvs, by rw [upd_ne hD]; exact h1, h2⟩
theorem keys_val {kvs : List (List Key × V)} {G : List (List Nat)} (h : Paired (fun (kv : List Key × V) (r : List Nat) => kv.1 = rk r ∧ True) kvs G) (r : List Nat) : (valV kvs (rk r)).isSome = decide (r ∈ G) := by
  by_cases hm : r ∈ G
  · obtain ⟨kv, h1, _⟩ := keys_some h hm
    rw [h1]
    simp [hm]
  · rw [keys_none h hm]
    simp [hm]
theorem keys_put {kvs : List (List Key × V)} {G : List (List Nat)} (h : Paired (fun (kv : List Key × V) (r : List Nat) => kv.1 = rk r ∧ True) kvs G) (r : List Nat) (v : V) :
    Paired (fun (kv : List Key × V) (r : List Nat) => kv.1 = rk r ∧ True) (putK kvs (rk r) v) (if r ∈ G then G else G ++ [r]) := by
  by_cases hm : r ∈ G
  · rw [if_pos hm]
    obtain ⟨kv, h1, _⟩ := keys_some h hm
    have hs : (valV kvs (rk r)).isSome = true := by rw [h1]; rfl
    have e : putK kvs (rk r) v = kvs.map fun kv => if kv.1 = rk r then (kv.1, v) else kv := by
      unfold putK
      rw [valV_any, hs]
      rfl
    rw [e]
    clear e hs h1 hm
    induction h with
    | nil => exact .nil
    | cons h1 h2 ih =>
      refine .cons ⟨?_, trivial⟩ ih
      dsimp only
      split
      · exact h1.1
      · exact h1.1
  · rw [if_neg hm, putK_new _ (keys_none h hm)]
    exact Paired.snoc h ⟨rfl, trivial⟩
/-! ### what the peeling keeps -/
/-- G: those gone; h: those that go next -/
structure Peel (L : Lt) (rs G h : List (List Nat)) (g : List Nat → Nat → Bool) : Prop where
  ndG : G.Nodup
  ndh : h.Nodup
  inG : ∀ r ∈ G, r ∈ rs
  inh : ∀ r, r ∈ h ↔ r ∈ rs ∧ r ∉ G ∧ gdOf L g r = []
  good : ∀ r ∈ rs, ∀ m ∈ aboveL L r, (g r m = true ↔ ∀ s ∈ leav r m, s ∉ G)
  sound : ∀ k, rs = rowsL L k → ∀ S, ClosedL L k S → ∀ r, S r → r ∉ G
theorem gd_nil {L : Lt} {g : List Nat → Nat → Bool} {r : List Nat} : gdOf L g r = [] ↔ ∀ m ∈ aboveL L r, g r m = false := by
  unfold gdOf
  rw [List.filter_eq_nil_iff]
  exact ⟨fun h m hm => by simpa using h m hm, fun h m hm => by simp [h m hm]⟩
theorem Peel.step {L : Lt} {rs G h G' h' : List (List Nat)} {g g' : List Nat → Nat → Bool} {k : Nat} (hk : rs = rowsL L k) (P : Peel L rs G h g) (hG : G' = G ++ h) (hn : h'.Nodup)
    (hg : ∀ r ∈ rs, ∀ m ∈ aboveL L r, (g' r m = true ↔ g r m = true ∧ ∀ s ∈ h, s ∉ leav r m)) (hh : ∀ r, r ∈ h' ↔ r ∈ rs ∧ r ∉ G' ∧ gdOf L g' r = []) : Peel L rs G' h' g' := by
  subst hG
  refine ⟨List.nodup_append.mpr ⟨P.ndG, P.ndh, fun x hx y hy e => ?_⟩, hn, fun r hr => ?_, hh, fun r hr m hm => ?_, fun k' hk' S hS r hSr hr => ?_⟩
  · subst e
    exact ((P.inh x).mp hy).2.1 hx
  · rcases List.mem_append.mp hr with z | z
    · exact P.inG r z
    · exact ((P.inh r).mp z).1
  · rw [hg r hr m hm, P.good r hr m hm]
    constructor
    · rintro ⟨h1, h2⟩ s hs hm'
      rcases List.mem_append.mp hm' with z | z
      · exact h1 s hs z
      · exact h2 s z hs
    · intro h1
      exact ⟨fun s hs z => h1 s hs (List.mem_append_left _ z), fun s hs z => h1 s z (List.mem_append_right _ hs)⟩
  · rcases List.mem_append.mp hr with z | z
    · exact P.sound k' hk' S hS r hSr z
    · obtain ⟨h1, h2, h3⟩ := (P.inh r).mp z
      obtain ⟨_, m, hm, hs⟩ := hS r hSr
      have := (P.good r h1 m hm).mpr fun s hs' => P.sound k' hk' S hS s (hs s hs')
      rw [gd_nil.mp h3 m hm] at this
      cases this
theorem Peel.done {L : Lt} {G : List (List Nat)} {g : List Nat → Nat → Bool} {k : Nat} (P : Peel L (rowsL L k) G [] g) :
    ClosedL L k (fun r => r ∈ rowsL L k ∧ r ∉ G) ∧ ∀ S, ClosedL L k S → ∀ r, S r → r ∈ rowsL L k ∧ r ∉ G := by
  refine ⟨fun r ⟨hr, hG⟩ => ⟨hr, ?_⟩, fun S hS r hr => ⟨(hS r hr).1, P.sound k rfl S hS r hr⟩⟩
  have h1 : gdOf L g r ≠ [] := fun e => by
    have := (P.inh r).mpr ⟨hr, hG, e⟩
    cases this
  have h2 : ¬ ∀ m ∈ aboveL L r, g r m = false := fun e => h1 (gd_nil.mpr e)
  have h3 : ∃ m ∈ aboveL L r, g r m = true := by
    refine Classical.byContradiction fun hn => h2 fun m hm => ?_
    cases hg : g r m with
    | false => rfl
    | true => exact absurd ⟨m, hm, hg⟩ hn
  obtain ⟨m, hm, hg⟩ := h3
  exact ⟨m, hm, fun s hs => ⟨leav_rows hr hm hs, (P.good r hr m hm).mp hg s hs⟩⟩
theorem nodup_sub_len {α : Type} [DecidableEq α] {l m : List α} (hn : l.Nodup) (hs : ∀ x ∈ l, x ∈ m) : l.length ≤ m.length := by
  induction l generalizing m with
  | nil => simp
  | cons x l ih =>
    rw [List.nodup_cons] at hn
    have hx := hs x (by simp)
    have h1 := ih (m := m.erase x) hn.2 fun y hy => by
      have hne : y ≠ x := fun e => hn.1 (by rw [← e]; exact hy)
      exact (List.mem_erase_of_ne hne).mpr (hs y (by simp [hy]))
    rw [List.length_erase_of_mem hx] at h1
    have : 0 < m.length := List.length_pos_of_mem hx
    rw [List.length_cons]
    omega
end K9

set_option Elab.async false
set_option linter.all false
set_option maxRecDepth 100000
namespace K9
open PySem PySem.Spec PyProof.Rows L2
/-! ### locks -/
theorem lock_same {H H' : Hp} {d : Addr} {o' : HO} (h : Same H H') : Same (L2.upd H d o') (L2.upd H' d o') := fun b x e => by
  by_cases hb : b = d
  · subst hb
    rw [upd_same] at e ⊢
    exact e
  · rw [upd_ne hb] at e ⊢
    exact h _ _ e
theorem unlock_same {H H' : Hp} {d : Addr} {o o' : HO} (h : Same (L2.upd H d o') H') (hd : H d = some o) : Same H (L2.upd H' d o) := fun b x e => by
  by_cases hb : b = d
  · subst hb
    rw [upd_same]
    rw [hd] at e
    exact e
  · rw [upd_ne hb]
    exact h _ _ (by rw [upd_ne hb]; exact e)
theorem lock_free {H : Hp} {d p : Addr} {o : HO} (h : L2.upd H d o p = none) : H p = none := by
  by_cases hb : p = d
  · subst hb
    rw [upd_same] at h
    cases h
  · rwa [upd_ne hb] at h
theorem free_lock {H : Hp} {d p : Addr} {o u : HO} (h : H p = none) (hd : H d = some u) : L2.upd H d o p = none := by
  rw [upd_ne (ne_of_none hd h).symm]
  exact h
/-! ### comprehensions by a walk -/
section
variable {J : It} {n : Nat} {G : Hp → Prop} {Y : Nat → Hp → V → Hp → Prop}
theorem dcT_it (w : Walk J n G Y) {g : TG} {tt : TT} {tk tv : TE} {vs : List Nat} {σ : L2.St} {H1 : Hp} {D : Addr} {Qd : Hp → Prop} (Pv : Nat → Hp → Prop) (h0 : Pv 0 (upd H1 D (.dT []))) (hG : ∀ i H, i ≤ n → Pv i H → G H)
    (hs : ∀ i x H H', i < n → Pv i H → Y i H x H' → g x (wipe σ vs) H' fun σ2 H2 => wipe σ2 vs = wipe σ vs ∧ tt σ2 H2 fun b H3 =>
      if b = true then tk σ2 H3 fun y H4 => tv σ2 H4 fun z H5 => ∃ (kvs : List (List Key × V)) (k : List Key) (t : Addr), y = .ref t ∧ H5 t = some (.tup (k.map kV)) ∧ H5 D = some (.dT kvs) ∧ kvs.length < sizeLine ∧ Pv (i + 1) (upd H5 D (.dT (putK kvs k z))) else Pv (i + 1) H3) (hd : ∀ H, Pv n H → Qd H) :
    ∃ W : Nat → Nat → Hp → Prop, (∃ m, W 0 m (upd H1 D (.dT []))) ∧ ∀ i m H, W i m H →
      (J.stop i H ∧ Qd H) ∨ (J.go i H ∧ ∃ Nx : Hp → Prop, (∀ H', Nx H' → ∃ m', m' < m ∧ W (i + 1) m' H') ∧ ∀ x H', J.yld i H x H' → g x (wipe σ vs) H' fun σ2 H2 => wipe σ2 vs = wipe σ vs ∧ tt σ2 H2 fun b H3 =>
        if b = true then tk σ2 H3 fun y H4 => tv σ2 H4 fun z H5 => ∃ (kvs : List (List Key × V)) (k : List Key) (t : Addr), y = .ref t ∧ H5 t = some (.tup (k.map kV)) ∧ H5 D = some (.dT kvs) ∧ kvs.length < sizeLine ∧ Nx (upd H5 D (.dT (putK kvs k z))) else Nx H3) := by
  refine ⟨fun i m H => m = n - i ∧ i ≤ n ∧ Pv i H, ⟨n, by simp, Nat.zero_le _, h0⟩, ?_⟩
  rintro i m H ⟨rfl, hi, p⟩
  have q := hG i H hi p
  by_cases hlt : i < n
  · exact .inr ⟨w.goes i H hlt q, Pv (i + 1), fun H' p' => ⟨n - (i + 1), by omega, rfl, hlt, p'⟩, fun x H' y => hs i x H H' hlt p (w.yields i H x H' hlt q y)⟩
  · have e : i = n := by omega
    subst e
    exact .inl ⟨w.stops H q, hd H p⟩
theorem dc_it (w : Walk J n G Y) {g : TG} {tt : TT} {tk tv : TE} {vs : List Nat} {σ : L2.St} {H1 : Hp} {D : Addr} {Qd : Hp → Prop} (Pv : Nat → Hp → Prop) (h0 : Pv 0 (upd H1 D (.dK []))) (hG : ∀ i H, i ≤ n → Pv i H → G H)
    (hs : ∀ i x H H', i < n → Pv i H → Y i H x H' → g x (wipe σ vs) H' fun σ2 H2 => wipe σ2 vs = wipe σ vs ∧ tt σ2 H2 fun b H3 =>
      if b = true then tk σ2 H3 fun y H4 => tv σ2 H4 fun z H5 => ∃ kvs k, y = kV k ∧ H5 D = some (.dK kvs) ∧ kvs.length < sizeLine ∧ Pv (i + 1) (upd H5 D (.dK (putK kvs k z))) else Pv (i + 1) H3) (hd : ∀ H, Pv n H → Qd H) :
    ∃ W : Nat → Nat → Hp → Prop, (∃ m, W 0 m (upd H1 D (.dK []))) ∧ ∀ i m H, W i m H →
      (J.stop i H ∧ Qd H) ∨ (J.go i H ∧ ∃ Nx : Hp → Prop, (∀ H', Nx H' → ∃ m', m' < m ∧ W (i + 1) m' H') ∧ ∀ x H', J.yld i H x H' → g x (wipe σ vs) H' fun σ2 H2 => wipe σ2 vs = wipe σ vs ∧ tt σ2 H2 fun b H3 =>
        if b = true then tk σ2 H3 fun y H4 => tv σ2 H4 fun z H5 => ∃ kvs k, y = kV k ∧ H5 D = some (.dK kvs) ∧ kvs.length < sizeLine ∧ Nx (upd H5 D (.dK (putK kvs k z))) else Nx H3) := by
  refine ⟨fun i m H => m = n - i ∧ i ≤ n ∧ Pv i H, ⟨n, by simp, Nat.zero_le _, h0⟩, ?_⟩
  rintro i m H ⟨rfl, hi, p⟩
  have q := hG i H hi p
  by_cases hlt : i < n
  · exact .inr ⟨w.goes i H hlt q, Pv (i + 1), fun H' p' => ⟨n - (i + 1), by omega, rfl, hlt, p'⟩, fun x H' y => hs i x H H' hlt p (w.yields i H x H' hlt q y)⟩
  · have e : i = n := by omega
    subst e
    exact .inl ⟨w.stops H q, hd H p⟩
end
/-! ### steps of the peeling -/
theorem wait_len (E : List Ev) (s : List Nat) : (waitOf E s).length ≤ E.length := by
  unfold waitOf
  rw [List.length_map]
  exact List.length_filter_le _ _
theorem WaitAt.push {H : Hp} {D : Addr} {rs : List (List Nat)} {wa : List Nat → Addr} {E : List Ev} (h : WaitAt H D rs wa E) (inj : ∀ s ∈ rs, ∀ t ∈ rs, wa s = wa t → s = t) {s : List Nat} (hs : s ∈ rs) {ts : List Addr} {t q : Addr} {r : List Nat} {m : Nat}
    (h1 : H (wa s) = some (.lst (ts.map V.ref))) (h2 : PrAt H ts (waitOf E s)) (h3 : H t = some (.tup [.ref q, iV m])) (h4 : H q = some (.tup (rV r))) : WaitAt (L2.upd H (wa s) (.lst ((ts ++ [t]).map V.ref))) D rs wa (E ++ [((r, m), s)]) := by
  have tsm : TSame H (L2.upd H (wa s) (.lst ((ts ++ [t]).map V.ref))) := TSame.upd h1 fun _ z => nomatch z
  refine ⟨?_, fun x hx => ?_⟩
  · obtain ⟨kvs, g1, g2⟩ := h.at_
    exact ⟨kvs, by rw [upd_ne (ne_of g1 h1 fun z => nomatch z)]; exact g1, g2⟩
  · rw [wait_snoc]
    by_cases e : s = x
    · subst e
      rw [if_pos rfl]
      exact ⟨ts ++ [t], upd_same, Paired.snoc (h2.ts tsm) ⟨q, tsm _ _ h3, tsm _ _ h4⟩⟩
    · rw [if_neg e]
      obtain ⟨ts', g1, g2⟩ := h.of x hx
      exact ⟨ts', by rw [upd_ne fun z => e (inj s hs x hx z.symm)]; exact g1, g2.ts tsm⟩
theorem gKV_val (ms : List Nat) (m : Nat) : (valV (gKV ms) (kN m)).isSome = decide (m ∈ ms) := by
  unfold gKV
  induction ms with
  | nil => rfl
  | cons x ms ih =>
    rw [List.map_cons]
    by_cases e : x = m
    · subst e
      rw [valV_pos rfl]
      simp
    · rw [valV_neg fun z => e (kN_inj z), ih]
      have : ¬ m = x := fun z => e z.symm
      simp [this]
theorem gKV_drop (ms : List Nat) (m : Nat) : dropK (gKV ms) (kN m) = gKV (ms.filter fun x => decide (x ≠ m)) := by
  unfold dropK gKV
  induction ms with
  | nil => rfl
  | cons x ms ih =>
    rw [List.map_cons, List.filter_cons, List.filter_cons, ih]
    by_cases e : x = m
    · subst e
      simp
    · have : ¬ kN x = kN m := fun z => e (kN_inj z)
      simp [e, this]
theorem gKV_len (ms : List Nat) : (gKV ms).length = ms.length := by unfold gKV; rw [List.length_map]
theorem gKV_snoc {ms : List Nat} {m : Nat} (h : m ∉ ms) : putK (gKV ms) (kN m) (.bl true) = gKV (ms ++ [m]) := by
  have : valV (gKV ms) (kN m) = none := by
    have := gKV_val ms m
    rw [decide_eq_false h] at this
    exact Option.isSome_eq_false_iff.mp this |> Option.isNone_iff_eq_none.mp
  rw [putK_new _ this]
  unfold gKV
  rw [List.map_append]
  rfl
def gPop (g : List Nat → Nat → Bool) (r0 : List Nat) (m0 : Nat) : List Nat → Nat → Bool := fun r m => g r m && !decide (r = r0 ∧ m = m0)
theorem gd_pop (L : Lt) (g : List Nat → Nat → Bool) (r0 : List Nat) (m0 : Nat) : gdOf L (gPop g r0 m0) r0 = (gdOf L g r0).filter fun x => decide (x ≠ m0) := by
  unfold gdOf gPop
  rw [List.filter_filter]
  refine List.filter_congr fun x _ => ?_
  by_cases h : x = m0
  · simp [h]
  · simp [h]
theorem gd_pop_ne (L : Lt) (g : List Nat → Nat → Bool) {r r0 : List Nat} (m0 : Nat) (h : r ≠ r0) : gdOf L (gPop g r0 m0) r = gdOf L g r := by
  unfold gdOf gPop
  refine List.filter_congr fun x _ => ?_
  simp [h]
theorem GoodAt.pop {H : Hp} {D : Addr} {L : Lt} {rs : List (List Nat)} {ga : List Nat → Addr} {g : List Nat → Nat → Bool} (h : GoodAt H D L rs ga g) (inj : ∀ s ∈ rs, ∀ t ∈ rs, ga s = ga t → s = t) {r0 : List Nat} (h0 : r0 ∈ rs) (m0 : Nat) :
    GoodAt (L2.upd H (ga r0) (.dK (dropK (gKV (gdOf L g r0)) (kN m0)))) D L rs ga (gPop g r0 m0) := by
  have e0 := h.of r0 h0
  refine ⟨?_, fun r hr => ?_⟩
  · obtain ⟨kvs, g1, g2⟩ := h.at_
    exact ⟨kvs, by rw [upd_ne (ne_of g1 e0 fun z => nomatch z)]; exact g1, g2⟩
  · by_cases e : r = r0
    · subst e
      rw [upd_same, gKV_drop, gd_pop]
    · rw [upd_ne fun z => e (inj r hr r0 h0 z), gd_pop_ne L g m0 e]
      exact h.of r hr
theorem GoodAt.nopop {H : Hp} {D : Addr} {L : Lt} {rs : List (List Nat)} {ga : List Nat → Addr} {g : List Nat → Nat → Bool} (h : GoodAt H D L rs ga g) {r0 : List Nat} {m0 : Nat} (hm : m0 ∉ gdOf L g r0) :
    GoodAt H D L rs ga (gPop g r0 m0) := by
  refine ⟨h.at_, fun r hr => ?_⟩
  by_cases e : r = r0
  · subst e
    rw [gd_pop, List.filter_eq_self.mpr fun x hx => ?_]
    · exact h.of r hr
    · have : x ≠ m0 := fun z => hm (by rw [← z]; exact hx)
      simp [this]
  · rw [gd_pop_ne L g m0 e]
    exact h.of r hr
theorem isKeys_rows {H : Hp} {kvs : List (List Key × V)} {G : List (List Nat)} (h : Paired (fun (kv : List Key × V) (r : List Nat) => kv.1 = rk r ∧ True) kvs G) : ∀ {bs : List Addr}, IsKeys H kvs bs → RowsAt H bs G := by
  induction h with
  | nil =>
    intro bs hb
    unfold IsKeys at hb
    cases hb
    exact .nil
  | cons h1 h2 ih =>
    intro bs hb
    unfold IsKeys at hb
    cases hb with
    | cons e t =>
      refine .cons ?_ (ih t)
      rw [h1.1, rk_kV] at e
      exact e
theorem pop_both {Q : VK} {H3 : Hp} {a : Addr} {kvs : List (Key × V)} {k : Key} {z : V} {C : Hp → Prop} (hC : ∀ v H, C H → Q v H) (h : H3 a = some (.dK kvs)) (key : C (L2.upd H3 a (.dK (dropK kvs k)))) :
    (∀ v, valV kvs k = some v → Q v (L2.upd H3 a (.dK (dropK kvs k)))) ∧ (valV kvs k = none → Q z H3) := by
  refine ⟨fun v _ => hC v _ key, fun hn => hC z _ ?_⟩
  have e : L2.upd H3 a (.dK (dropK kvs k)) = H3 := by
    rw [dropK_no (valV_not hn)]
    funext b
    by_cases hb : b = a
    · subst hb
      rw [upd_same, h]
    · rw [upd_ne hb]
  rwa [e] at key
section
variable {L : Lt} {R GG Lr : List (List Nat)} {g : List Nat → Nat → Bool} {r0 : List Nat} {m0 : Nat}
theorem later_same (hL : ∀ r, r ∈ Lr ↔ r ∈ R ∧ r ∉ GG ∧ gdOf L g r = []) (c : ¬ (gdOf L (gPop g r0 m0) r0 = [] ∧ r0 ∉ GG)) : ∀ r, r ∈ Lr ↔ r ∈ R ∧ r ∉ GG ∧ gdOf L (gPop g r0 m0) r = [] := by
  intro r
  rw [hL]
  by_cases e : r = r0
  · subst e
    constructor
    · rintro ⟨h1, h2, h3⟩
      exact absurd ⟨by rw [gd_pop, h3]; rfl, h2⟩ c
    · rintro ⟨_, h2, h3⟩
      exact absurd ⟨h3, h2⟩ c
  · rw [gd_pop_ne L g m0 e]
theorem later_put (h0 : r0 ∈ R) (hL : ∀ r, r ∈ Lr ↔ r ∈ R ∧ r ∉ GG ∧ gdOf L g r = []) (c1 : gdOf L (gPop g r0 m0) r0 = []) (c2 : r0 ∉ GG) : ∀ r, r ∈ (if r0 ∈ Lr then Lr else Lr ++ [r0]) ↔ r ∈ R ∧ r ∉ GG ∧ gdOf L (gPop g r0 m0) r = [] := by
  intro r
  by_cases e : r = r0
  · subst e
    refine ⟨fun _ => ⟨h0, c2, c1⟩, fun _ => ?_⟩
    by_cases hm : r ∈ Lr
    · rw [if_pos hm]; exact hm
    · rw [if_neg hm]; simp
  · rw [gd_pop_ne L g m0 e, ← hL]
    by_cases hm : r0 ∈ Lr
    · rw [if_pos hm]
    · rw [if_neg hm]; simp [e]
theorem later_nodup (h : Lr.Nodup) : (if r0 ∈ Lr then Lr else Lr ++ [r0]).Nodup := by
  by_cases hm : r0 ∈ Lr
  · rw [if_pos hm]; exact h
  · rw [if_neg hm]
    exact List.nodup_append.mpr ⟨h, by simp, fun x hx y hy e => hm (by
      have : y = r0 := by simpa using hy
      rw [← this, ← e]; exact hx)⟩
end
/-- the state while the rows are peeled -/
structure Pst (H H' : Hp) (gD wD gn : Addr) (L : Lt) (R : List (List Nat)) (ga wa : List Nat → Addr) (g : List Nat → Nat → Bool) (G : List (List Nat)) : Prop where
  sm : Same H H'
  good : GoodAt H' gD L R ga g
  wait : WaitAt H' wD R wa (evs L R)
  gone : KeysAt H' gn G
section
variable {H H' H'' : Hp} {gD wD gn p : Addr} {L : Lt} {R G : List (List Nat)} {ga wa : List Nat → Addr} {g : List Nat → Nat → Bool}
theorem Pst.same (h : Pst H H' gD wD gn L R ga wa g G) (s : Same H' H'') : Pst H H'' gD wD gn L R ga wa g G := ⟨Same.trans h.sm s, h.good.same s, h.wait.same s, h.gone.same s⟩
theorem Pst.ne (h : Pst H H' gD wD gn L R ga wa g G) (hp : H' p = none) : gD ≠ p ∧ wD ≠ p ∧ gn ≠ p := by
  obtain ⟨_, h1, _⟩ := h.good.at_
  obtain ⟨_, h2, _⟩ := h.wait.at_
  obtain ⟨_, h3, _⟩ := h.gone
  exact ⟨ne_of_none h1 hp, ne_of_none h2 hp, ne_of_none h3 hp⟩
/-- a dict of our own is written -/
theorem Pst.own (h : Pst H H' gD wD gn L R ga wa g G) {kvs : List (List Key × V)} (o : HO) (hf : H p = none) (hp : H' p = some (.dT kvs)) (hne : gD ≠ p ∧ wD ≠ p ∧ gn ≠ p) : Pst H (L2.upd H' p o) gD wD gn L R ga wa g G :=
  ⟨Same.new h.sm hf, h.good.upd hp hne.1 (fun _ z => nomatch z), h.wait.upd hp hne.2.1 (fun _ z => nomatch z) (fun _ z => nomatch z), h.gone.upd hne.2.2⟩
end
end K9

set_option Elab.async false
set_option linter.all false
set_option maxRecDepth 100000
namespace K9
open PySem PySem.Spec PyProof.Rows L2
section
variable {P : Program} {w : World} {K : PySem.W.Frag} {mg : Str → Option Value} {base : Heap}
def spPeel : Sp := fun vs H Q _ => ∃ (d : Addr) (L : Lt) (k : Nat), vs = [.ref d] ∧ LevAt H d L k ∧ LF L ∧ k ≤ 4 ∧
  ∀ H' p G, Same H H' → KeysAt H' p G → ClosedL L k (fun r => r ∈ rowsL L k ∧ r ∉ G) → (∀ S, ClosedL L k S → ∀ r, S r → r ∈ rowsL L k ∧ r ∉ G) → Q (.ref p) H'
theorem scPeel : FnScope ["above", "row", "good", "waiting", "marks", "mark", "part", "gone", "here", "number", "later"] ["above"] (defScope sPeeled) := ⟨rfl, rfl, rfl, by decide +kernel, rfl, by decide +kernel, by decide +kernel⟩
theorem ok_peeled {f fP : Addr} {fd fdP : FuncData} (F : Fun K "peeled" "peeled" sPeeled f fd) (CP : Cal P w K mg base "parts_with" 1 ["row", "mark"] spParts fP fdP) (mli : mg "list" = none) :
    FnOk P w K mg base CX0 2 f fd ["above"] spPeel := by
  refine F.ok scPeel (fun vs H Q E h => ?_) (fun cdv A outer s H vs Q E hr h => ?_)
  · obtain ⟨d, L, k, rfl, _⟩ := h
    rfl
  · obtain ⟨d, L, k, rfl, hL, lf, hk, q⟩ := h
    refine ⟨_, pss_cons (ps_asg (pe_tup (pa_cons pe_dnewT (pa_cons (pe_lock (pe_dcT (own := [("row", 1)]) (g := gName 1) (tt := tYes) (tk := tVar 1) (tv := tLst tNil) hr.units0 rfl scPeel.nd (pi_keys (pv 0))
            (blkOk_by (own := [("row", 1)]) (N := ["above", "row", "good", "waiting", "marks", "mark", "part", "gone", "here", "number", "later"]) (sc := defScope sPeeled) (by decide +kernel))
            (fun _ _ _ _ _ => pg_name (i := 1) scPeel.nd rfl (.inl rfl)) (fun _ _ _ _ _ => pts_nil) (fun _ _ _ _ _ => pv 1) (fun _ _ _ _ _ => pe_lst pa_nil))) pa_nil)))
          (pg_tup rfl (pgs_cons (pg_name (i := 2) scPeel.nd rfl (.inr rfl)) (pgs_cons (pg_name (i := 3) scPeel.nd rfl (.inl rfl)) pgs_nil))))
      (pss_cons (ps_lock (ps_for PassesOwn.never rfl (pi_itemsT (pv 0)) (pg_tup rfl (pgs_cons (pg_name (i := 1) scPeel.nd rfl (.inl rfl)) (pgs_cons (pg_name (i := 4) scPeel.nd rfl (.inl rfl)) pgs_nil)))
          (pss_cons (ps_dput (hu_of hr) (pv 2) (pv 1) (pe_dc (own := [("mark", 5)]) (g := gName 5) (tt := tYes) (tk := tVar 5) (tv := tC (.bl true)) rfl scPeel.nd (pi_list (pv 4))
              (blkOk_by (own := [("mark", 5)]) (N := ["above", "row", "good", "waiting", "marks", "mark", "part", "gone", "here", "number", "later"]) (sc := defScope sPeeled) (by decide +kernel))
              (fun _ _ _ _ _ => pg_name (i := 5) scPeel.nd rfl (.inl rfl)) (fun _ _ _ _ _ => pts_nil) (fun _ _ _ _ _ => pv 5) (fun _ _ _ _ _ => pe_bl)) rfl)
          (pss_one (ps_for PassesOwn.never rfl (pi_list (pv 4)) (pg_name (i := 5) scPeel.nd rfl (.inl rfl))
            (pss_one (ps_for PassesOwn.never rfl (pi_list (pe_call CP.ok hr (by rfl) CP.g CP.kp CP.b .nil pass0 (pa_cons (pv 1) (pa_cons (pv 5) pa_nil)))) (pg_name (i := 6) scPeel.nd rfl (.inl rfl))
              (pss_one (ps_expr (pe_bm PySem.F.plainAttrs_list PySem.F.slot_list_append PySem.F.type_list_append mt_append (pe_dget (hu_of hr) (pv 3) (pv 6) (fun _ _ => rfl)) (pa_cons (pe_tup (pa_cons (pv 1) (pa_cons (pv 5) pa_nil))) pa_nil)))))))))))
      (pss_cons (ps_par3 (i := 7) (j := 8) (l := 9) rfl scPeel.nd rfl rfl rfl (by decide) (by decide) (by decide) rfl rfl rfl
          (pa_cons pe_dnewT (pa_cons (pe_lock (pe_lc (own := [("row", 1)]) (g := gName 1) (te := tVar 1) (tt := tTest (tOp rEq0 (tDGet (tVar 2) (tVar 1)) tDNewT)) rfl scPeel.nd (pi_keys (pv 0))
            (blkOk_by (own := [("row", 1)]) (N := ["above", "row", "good", "waiting", "marks", "mark", "part", "gone", "here", "number", "later"]) (sc := defScope sPeeled) (by decide +kernel))
            (fun _ _ _ _ _ => pg_name (i := 1) scPeel.nd rfl (.inl rfl)) (fun _ _ _ _ _ => pts_one (pt_cmpR (op_eq0 hr.units0) (pe_dget (hu_of hr) (pv 2) (pv 1) (fun _ _ => rfl)) pe_dnewT rfl)) (fun _ _ _ _ _ => pv 1))) (pa_cons pe_int pa_nil))) rfl)
      (pss_cons (ps_while PassesOwn.never (pt_cmpR (op_neD hr.units) (pv 8) (pe_lst pa_nil) rfl)
          (pss_cons (ps_for PassesOwn.never rfl (pi_list (pv 8)) (pg_name (i := 1) scPeel.nd rfl (.inl rfl)) (pss_one (ps_dput (hu_of hr) (pv 7) (pv 1) (pv 9) rfl)))
          (pss_cons (ps_set (i := 10) scPeel.nd rfl (.inl rfl) pe_dnewT)
          (pss_cons (ps_for PassesOwn.never rfl (pi_list (pv 8)) (pg_name (i := 6) scPeel.nd rfl (.inl rfl))
            (pss_one (ps_for PassesOwn.never rfl (pi_list (pe_dget (hu_of hr) (pv 3) (pv 6) (fun _ _ => rfl))) (pg_tup rfl (pgs_cons (pg_name (i := 1) scPeel.nd rfl (.inl rfl)) (pgs_cons (pg_name (i := 5) scPeel.nd rfl (.inl rfl)) pgs_nil)))
              (pss_cons (ps_expr (pe_dpop2 (pe_dget (hu_of hr) (pv 2) (pv 1) (fun _ _ => rfl)) (pv 5) pe_non ⟨rfl, rfl, rfl, rfl⟩))
              (pss_one (ps_if ((pw_and (pt_cmpR (op_eq0 hr.units0) (pe_dget (hu_of hr) (pv 2) (pv 1) (fun _ _ => rfl)) pe_dnewT rfl) (pw_and1 (pt_cmp (pc_dnotin (hu_of hr) (pv 1) (pv 7))))).pt)
                (pss_one (ps_dput (hu_of hr) (pv 10) (pv 1) pe_bl rfl)) pss_nil))))))
          (pss_one (ps_par (i := 8) (j := 9) rfl scPeel.nd rfl rfl (by decide) rfl rfl (pa_cons (pe_callTy (call_list_dT rfl) (by rfl) mli rfl (pa_cons (pv 10) pa_nil)) (pa_cons (pe_op op_add (pv 9) pe_int) pa_nil)) rfl))))))
      (pss_one (ps_ret (pv 7)))))), ?_⟩
    have hfew := rows_few lf.few hk
    generalize hR : rowsL L k = R at hfew q
    have ndR : R.Nodup := by rw [← hR]; exact rows_nodup L k
    have hlen0 : (evs L R).length ≤ 300000 := by rw [← hR]; exact len_evs lf.few hk
    obtain ⟨kvs, hd, hlev⟩ := hL
    rw [hR] at hlev
    have hkl := Paired.length hlev
    -- good, waiting = ({}, {row: [] for row in above})
    refine fun gD ngD => ?_
    refine ⟨d, .dT kvs, same_upd ngD _ _ hd, trivial, fun od1 => ?_⟩
    have s1 : Same H (upd H gD (.dT [])) := same_upd ngD
    refine ⟨.ref d, rfl, d, od1, rfl, .inr ⟨kvs, upd_same, fun wD nwD => ?_⟩⟩
    generalize hHz : upd (upd H gD (.dT [])) d (.frz od1 (.dT kvs)) = Hz at nwD
    have hzd : Hz d = some (.frz od1 (.dT kvs)) := by rw [← hHz]; exact upd_same
    have nwD0 : H wD = none := by
      rw [← hHz] at nwD
      exact Same.free s1 (lock_free nwD)
    refine dcT_it walk_keysT (fun i H' => Same Hz H' ∧ ∃ wa wk, H' wD = some (.dT wk) ∧ wk.length ≤ i ∧ (∀ s ∈ R.take i, ∀ t ∈ R.take i, wa s = wa t → s = t) ∧ ∀ s ∈ R.take i, valV wk (rk s) = some (.ref (wa s)) ∧ H' (wa s) = some (.lst []) ∧ Hz (wa s) = none)
      ⟨same_upd nwD, fun _ => 0, [], upd_same, Nat.le_refl _, by simp, by simp⟩ ?_ ?_ ?_
    · rintro i H' hi ⟨sm, _⟩
      exact sm _ _ hzd
    · rintro i x H0' H' hi ⟨sm, wa, wk, hW, hwl, inj, hwa⟩ ⟨rfl, kk, v, t, hkv, rfl, ht⟩
      obtain ⟨r, _, hr2, rfl, _⟩ := hlev.get hkv
      rw [rk_kV] at ht
      rw [hkl] at hi
      refine ⟨rfl, yesI ⟨.ref t, rfl, Nat.zero_le _, fun a na => ?_⟩⟩
      have hnin : r ∉ R.take i := fun hm => by
        have h1 : (R.take (i + 1)).Nodup := ndR.sublist (List.take_sublist _ _)
        rw [take_next hr2, List.nodup_append] at h1
        exact h1.2.2 r hm r (by simp) rfl
      have hWn : wD ≠ a := ne_of_none hW na
      have sa : Same H' (upd H' a (.lst [])) := same_upd na
      refine ⟨wk, rk r, t, rfl, sa _ _ (by rw [rk_kV]; exact ht), sa _ _ hW, sl_lt (by omega), Same.new (Same.new sm (Same.free sm na)) nwD, fun s => if s = r then a else wa s, _, upd_same, Nat.le_trans (length_putK _ _ _) (by omega), ?_, ?_⟩
      · rw [take_next hr2]
        intro s hs t' ht' e
        rcases List.mem_append.mp hs with h1 | h1 <;> rcases List.mem_append.mp ht' with h2 | h2
        · have n1 : s ≠ r := fun z => hnin (by rw [← z]; exact h1)
          have n2 : t' ≠ r := fun z => hnin (by rw [← z]; exact h2)
          dsimp only at e
          rw [if_neg n1, if_neg n2] at e
          exact inj s h1 t' h2 e
        · have n1 : s ≠ r := fun z => hnin (by rw [← z]; exact h1)
          have n2 : t' = r := by simpa using h2
          dsimp only at e
          rw [if_neg n1, if_pos n2] at e
          have := (hwa s h1).2.1
          rw [e, na] at this
          cases this
        · have n1 : s = r := by simpa using h1
          have n2 : t' ≠ r := fun z => hnin (by rw [← z]; exact h2)
          dsimp only at e
          rw [if_pos n1, if_neg n2] at e
          have := (hwa t' h2).2.1
          rw [← e, na] at this
          cases this
        · have n1 : s = r := by simpa using h1
          have n2 : t' = r := by simpa using h2
          rw [n1, n2]
      · rw [take_next hr2]
        intro s hs
        dsimp only
        rw [valV_put]
        rcases List.mem_append.mp hs with h1 | h1
        · have n1 : s ≠ r := fun z => hnin (by rw [← z]; exact h1)
          obtain ⟨g1, g2, g3⟩ := hwa s h1
          rw [if_neg n1, if_neg fun z => n1 (rk_inj z)]
          refine ⟨g1, ?_, g3⟩
          rw [upd_ne (ne_of (sa _ _ g2) (sa _ _ hW) fun z => nomatch z)]
          exact sa _ _ g2
        · have n1 : s = r := by simpa using h1
          subst n1
          rw [if_pos rfl, if_pos rfl]
          refine ⟨rfl, ?_, Same.free sm na⟩
          rw [upd_ne hWn.symm, upd_same]
    · rintro H' ⟨sm, wa, wk, hW, hwl, inj, hwa⟩
      rw [hkl, List.take_length] at inj hwa
      refine ⟨sm _ _ hzd, ?_⟩
      have s2 : Same H (upd H' d (.dT kvs)) := by
        refine Same.trans s1 (unlock_same (o' := .frz od1 (.dT kvs)) ?_ (s1 _ _ hd))
        rw [hHz]
        exact sm
      have hgD : (upd H' d (.dT kvs)) gD = some (.dT []) := by
        refine unlock_same (H := upd H gD (.dT [])) (o' := .frz od1 (.dT kvs)) ?_ (s1 _ _ hd) _ _ upd_same
        rw [hHz]
        exact sm
      have hfree : ∀ p, Hz p = none → H p = none := fun p hp => by
        rw [← hHz] at hp
        exact Same.free s1 (lock_free hp)
      have hW2 : (upd H' d (.dT kvs)) wD = some (.dT wk) := by rw [upd_ne (ne_of hW (sm _ _ hzd) fun z => nomatch z)]; exact hW
      have hwa2 : ∀ s ∈ R, valV wk (rk s) = some (.ref (wa s)) ∧ (upd H' d (.dT kvs)) (wa s) = some (.lst []) ∧ H (wa s) = none := fun s hs => by
        obtain ⟨g1, g2, g3⟩ := hwa s hs
        refine ⟨g1, ?_, hfree _ g3⟩
        rw [upd_ne (ne_of g2 (sm _ _ hzd) fun z => nomatch z)]
        exact g2
      have hgw : gD ≠ wD := by
        have h1 : Hz gD = some (.dT []) := by
          rw [← hHz, upd_ne (ne_of_none hd ngD).symm, upd_same]
        exact ne_of_none h1 nwD
      generalize upd H' d (.dT kvs) = H2 at s2 hgD hW2 hwa2
      clear sm hwa hW
      refine ⟨by show 2 ≤ sizeLine; decide, fun T nT => ?_⟩
      have sT : Same H2 (upd H2 T (.tup [.ref gD, .ref wD])) := same_upd nT
      refine ⟨T, [.ref gD, .ref wD], rfl, .inl (.inl upd_same), rfl, .ref gD, [.ref wD], rfl, .ref wD, [], rfl, rfl, ?_⟩
      have s3 : Same H (upd H2 T (.tup [.ref gD, .ref wD])) := Same.trans s2 sT
      have hg3 := sT _ _ hgD
      have hw3 : WaitAt (upd H2 T (.tup [.ref gD, .ref wD])) wD R wa (evs L []) := ⟨⟨wk, sT _ _ hW2, fun s hs => (hwa2 s hs).1⟩, fun s hs => ⟨[], sT _ _ (hwa2 s hs).2.1, .nil⟩⟩
      have nwa : ∀ s ∈ R, H (wa s) = none := fun s hs => (hwa2 s hs).2.2
      generalize upd H2 T (.tup [.ref gD, .ref wD]) = H3 at s3 hg3 hw3
      clear hwa2 hW2 hgD hfree sT s2 nT nwD hHz hzd s1
      -- for row, marks in above.items()
      refine ⟨d, .dT kvs, s3 _ _ hd, trivial, fun od2 => ?_⟩
      refine ⟨.ref d, rfl, d, od2, kvs, rfl, upd_same, ?_⟩
      generalize hHz : upd H d (.frz od2 (.dT kvs)) = Hz
      have hzd : Hz d = some (.frz od2 (.dT kvs)) := by rw [← hHz]; exact upd_same
      have sz3 : Same Hz (upd H3 d (.frz od2 (.dT kvs))) := by rw [← hHz]; exact lock_same s3
      have fz : ∀ {p}, H p = none → Hz p = none := fun {p} hp => by rw [← hHz]; exact free_lock hp hd
      have zf : ∀ {p}, Hz p = none → H p = none := fun {p} hp => by rw [← hHz] at hp; exact lock_free hp
      have hlevz : LevP Hz L kvs R := by rw [← hHz]; exact hlev.ls (LSame.upd hd fun _ z => nomatch z)
      refine for_itemsT (fun i σ' H'' => ∃ y1 y4 y5 y6, σ' = [some (.ref d), y1, some (.ref gD), some (.ref wD), y4, y5, y6, none, none, none, none] ∧ Same Hz H'' ∧
        (∃ ga, GoodAt H'' gD L (R.take i) ga (fun _ _ => true) ∧ (∀ s ∈ R.take i, ∀ t ∈ R.take i, ga s = ga t → s = t) ∧ ∀ s ∈ R.take i, H (ga s) = none) ∧ (∃ gk, H'' gD = some (.dT gk) ∧ gk.length ≤ i) ∧ WaitAt H'' wD R wa (evs L (R.take i))) ?_ ?_ ?_ ?_
      · have hgz := sz3
        refine ⟨none, none, none, none, rfl, sz3, ⟨fun _ => 0, ⟨⟨[], ?_, by simp⟩, by simp⟩, by simp, by simp⟩, ⟨[], ?_, Nat.le_refl _⟩, ?_⟩
        · rw [upd_ne (ne_of_none hd ngD).symm]; exact hg3
        · rw [upd_ne (ne_of_none hd ngD).symm]; exact hg3
        · exact hw3.upd (s3 _ _ hd) (ne_of_none hd nwD0).symm (fun _ z => nomatch z) fun _ z => nomatch z
      · rintro i σ' H'' hi ⟨_, _, _, _, rfl, sm, _⟩
        exact sm _ _ hzd
      · rintro i kk v qa T σ' H'' hkv ⟨y1, y4, y5, y6, rfl, sm, ⟨ga, hga, inj2, nga⟩, ⟨gk, hgk, hgl⟩, hwt⟩ hq nT
        obtain ⟨r, m2, hr2, rfl, rfl, hm⟩ := hlevz.get hkv
        rw [rk_kV] at hq
        have hrR : r ∈ R := List.mem_of_getElem? hr2
        have hiR : i < R.length := (List.getElem?_eq_some_iff.mp hr2).1
        have sT : Same H'' (upd H'' T (.tup [.ref qa, .ref m2])) := same_upd nT
        refine ⟨T, [.ref qa, .ref m2], rfl, .inl (.inl upd_same), rfl, .ref qa, [.ref m2], rfl, .ref m2, [], rfl, rfl, ?_⟩
        have hm4 := sT _ _ (sm _ _ hm)
        refine ⟨.ref m2, rfl, m2, rfl, ⟨_, .inl (.inl hm4)⟩, fun E nE => ?_⟩
        generalize hH4 : upd H'' T (.tup [.ref qa, .ref m2]) = H4 at sT hm4 nE
        have nab := above_nodup L r
        refine dc_it (walk_list (xs := rV (aboveL L r))) (fun j H6 => H6 = upd H4 E (.dK (gKV ((aboveL L r).take j)))) rfl ?_ ?_ ?_
        · rintro j H6 hj rfl
          exact .inl (.inl (same_upd nE _ _ hm4))
        · rintro j x _ H6 hj rfl ⟨rfl, hx⟩
          obtain ⟨m, hm', rfl⟩ := get_iV hx
          refine ⟨rfl, yesI ⟨iV m, rfl, gKV ((aboveL L r).take j), kN m, rfl, upd_same, ?_, ?_⟩⟩
          · rw [gKV_len]
            have h3 := above_len L r
            have := lf.few
            exact sl_lt (by rw [List.length_take]; omega)
          · rw [upd_upd, gKV_snoc, take_next hm']
            intro hin
            have h1 : ((aboveL L r).take (j + 1)).Nodup := nab.sublist (List.take_sublist _ _)
            rw [take_next hm', List.nodup_append] at h1
            exact h1.2.2 m hin m (by simp) rfl
        · rintro H6 rfl
          rw [rV_len, List.take_length]
          have s6 : Same H'' (upd H4 E (.dK (gKV (aboveL L r)))) := Same.trans sT (same_upd nE)
          have hE : (upd H4 E (.dK (gKV (aboveL L r)))) E = some (.dK (gKV (aboveL L r))) := upd_same
          have nE1 : H'' E = none := Same.free sT nE
          generalize upd H4 E (.dK (gKV (aboveL L r))) = H6 at s6 hE
          refine ⟨.ref gD, rfl, .ref qa, rfl, gD, _, rfl, DPut.t (k := rk r) (s6 _ _ hgk) (by rw [rk_kV]; exact s6 _ _ hq) (sl_lt (by omega)), ?_⟩
          have hnin : r ∉ R.take i := fun hm => by
            have h1 : (R.take (i + 1)).Nodup := ndR.sublist (List.take_sublist _ _)
            rw [take_next hr2, List.nodup_append] at h1
            exact h1.2.2 r hm r (by simp) rfl
          have hgE : gD ≠ E := ne_of_none hgk nE1
          -- the state behind the store
          have smg : Same Hz (upd H6 gD (.dT (putK gk (rk r) (.ref E)))) := Same.new (Same.trans sm s6) (fz ngD)
          have hga2 : GoodAt (upd H6 gD (.dT (putK gk (rk r) (.ref E)))) gD L (R.take (i + 1)) (fun s => if s = r then E else ga s) (fun _ _ => true) := by
            refine ⟨⟨_, upd_same, fun s hs => ?_⟩, fun s hs => ?_⟩
            · rw [valV_put]
              rw [take_next hr2] at hs
              rcases List.mem_append.mp hs with h1 | h1
              · have n1 : s ≠ r := fun z => hnin (by rw [← z]; exact h1)
                rw [if_neg n1, if_neg fun z => n1 (rk_inj z)]
                obtain ⟨gk', e1, e2⟩ := hga.at_
                rw [hgk] at e1
                cases e1
                exact e2 s h1
              · have n1 : s = r := by simpa using h1
                rw [if_pos n1, if_pos (by rw [n1])]
            · rw [take_next hr2] at hs
              rcases List.mem_append.mp hs with h1 | h1
              · have n1 : s ≠ r := fun z => hnin (by rw [← z]; exact h1)
                rw [if_neg n1]
                have h2 := s6 _ _ (hga.of s h1)
                rw [upd_ne (ne_of h2 (s6 _ _ hgk) fun z => nomatch z)]
                exact h2
              · have n1 : s = r := by simpa using h1
                subst n1
                rw [if_pos rfl, upd_ne hgE.symm, hE]
                unfold gdOf
                rw [List.filter_eq_self.mpr fun _ _ => rfl]
          have inj3 : ∀ s ∈ R.take (i + 1), ∀ t ∈ R.take (i + 1), (if s = r then E else ga s) = (if t = r then E else ga t) → s = t := by
            rw [take_next hr2]
            intro s hs t' ht' e
            have hno : ∀ x ∈ R.take i, ga x ≠ E := fun x hx z => by
              have := hga.of x hx
              rw [z, nE1] at this
              cases this
            rcases List.mem_append.mp hs with h1 | h1 <;> rcases List.mem_append.mp ht' with h2 | h2
            · have n1 : s ≠ r := fun z => hnin (by rw [← z]; exact h1)
              have n2 : t' ≠ r := fun z => hnin (by rw [← z]; exact h2)
              rw [if_neg n1, if_neg n2] at e
              exact inj2 s h1 t' h2 e
            · have n1 : s ≠ r := fun z => hnin (by rw [← z]; exact h1)
              have n2 : t' = r := by simpa using h2
              rw [if_neg n1, if_pos n2] at e
              exact absurd e (hno s h1)
            · have n1 : s = r := by simpa using h1
              have n2 : t' ≠ r := fun z => hnin (by rw [← z]; exact h2)
              rw [if_pos n1, if_neg n2] at e
              exact absurd e.symm (hno t' h2)
            · have n1 : s = r := by simpa using h1
              have n2 : t' = r := by simpa using h2
              rw [n1, n2]
          have nga2 : ∀ s ∈ R.take (i + 1), H (if s = r then E else ga s) = none := by
            rw [take_next hr2]
            intro s hs
            by_cases n1 : s = r
            · rw [if_pos n1]
              exact zf (Same.free sm nE1)
            · rw [if_neg n1]
              rcases List.mem_append.mp hs with h1 | h1
              · exact nga s h1
              · exact absurd (by simpa using h1) n1
          have hwt2 : WaitAt (upd H6 gD (.dT (putK gk (rk r) (.ref E)))) wD R wa (evs L (R.take i)) := (hwt.same s6).upd (s6 _ _ hgk) hgw.symm (fun _ z => nomatch z) fun _ z => nomatch z
          have hq7 : (upd H6 gD (.dT (putK gk (rk r) (.ref E)))) qa = some (.tup (rV r)) := by
            rw [upd_ne (ne_of (s6 _ _ hq) (s6 _ _ hgk) fun z => nomatch z)]
            exact s6 _ _ hq
          have hgk7 : (upd H6 gD (.dT (putK gk (rk r) (.ref E)))) gD = some (.dT (putK gk (rk r) (.ref E))) := upd_same
          have hgl7 : (putK gk (rk r) (.ref E)).length ≤ i + 1 := Nat.le_trans (length_putK _ _ _) (by omega)
          generalize upd H6 gD (.dT (putK gk (rk r) (.ref E))) = H7 at smg hga2 hwt2 hq7 hgk7
          have inj3 : ∀ s ∈ R.take (i + 1), ∀ t ∈ R.take (i + 1), (fun s => if s = r then E else ga s) s = (fun s => if s = r then E else ga s) t → s = t := inj3
          have nga2 : ∀ s ∈ R.take (i + 1), H ((fun s => if s = r then E else ga s) s) = none := nga2
          generalize (fun s => if s = r then E else ga s) = ga2 at hga2 inj3 nga2
          generalize putK gk (rk r) (.ref E) = gk2 at hgk7 hgl7
          have hm7 := smg _ _ hm
          clear hga hwt hgk hgl inj2 nga s6 hE nE nE1 hm4 sT hH4 sm nT hgE hq H6
          -- for mark in marks
          refine ⟨.ref m2, rfl, m2, rfl, ⟨_, .inl (.inl hm7)⟩, ?_⟩
          refine for_list (xs := rV (aboveL L r)) (fun j σ2 H8 => ∃ y5 y6, σ2 = [some (.ref d), some (.ref qa), some (.ref gD), some (.ref wD), some (.ref m2), y5, y6, none, none, none, none] ∧ Same Hz H8 ∧
            GoodAt H8 gD L (R.take (i + 1)) ga2 (fun _ _ => true) ∧ H8 gD = some (.dT gk2) ∧ H8 qa = some (.tup (rV r)) ∧ WaitAt H8 wD R wa (evs L (R.take i) ++ ((aboveL L r).take j).flatMap (evMark r))) ?_ ?_ ?_ ?_
          · refine ⟨y5, y6, rfl, smg, hga2, hgk7, hq7, ?_⟩
            rw [List.take_zero, List.flatMap_nil, List.append_nil]
            exact hwt2
          · rintro j σ2 H8 hj ⟨_, _, rfl, sm8, _⟩
            exact .inl (.inl (sm8 _ _ hm))
          · rintro j x σ2 H8 hx ⟨y5, y6, rfl, sm8, hga8, hgk8, hq8, hwt8⟩
            obtain ⟨m, hm', rfl⟩ := get_iV hx
            have hmA : m ∈ aboveL L r := List.mem_of_getElem? hm'
            have hrr := mem_rows.mp (by rw [hR]; exact hrR)
            refine ⟨.ref qa, rfl, iV m, rfl, qa, r, m, rfl, hq8, by omega, fun H9 pl tsl s9 npl hpl hrl => ?_⟩
            have hpn : ∀ s ∈ R, pl ≠ wa s := fun s hs => by
              obtain ⟨tw, e, _⟩ := hwt8.of s hs
              exact (ne_of_none e npl).symm
            refine ⟨pl, rfl, ⟨_, .inl (.inl hpl)⟩, ?_⟩
            refine for_list (xs := tsl.map V.ref) (fun l σ3 H10 => ∃ y6, σ3 = [some (.ref d), some (.ref qa), some (.ref gD), some (.ref wD), some (.ref m2), some (iV m), y6, none, none, none, none] ∧ Same Hz H10 ∧
              GoodAt H10 gD L (R.take (i + 1)) ga2 (fun _ _ => true) ∧ H10 gD = some (.dT gk2) ∧ H10 qa = some (.tup (rV r)) ∧ H10 pl = some (.lst (tsl.map V.ref)) ∧ RowsAt H10 tsl (leav r m) ∧ WaitAt H10 wD R wa (evs L (R.take i) ++ ((aboveL L r).take j).flatMap (evMark r) ++ (evMark r m).take l)) ?_ ?_ ?_ ?_
            · refine ⟨y6, rfl, Same.trans sm8 s9, hga8.same s9, s9 _ _ hgk8, s9 _ _ hq8, hpl, hrl, ?_⟩
              rw [List.take_zero, List.append_nil]
              exact hwt8.same s9
            · rintro l σ3 H10 hl ⟨_, rfl, _, _, _, _, e, _⟩
              exact .inl (.inl e)
            · rintro l x σ3 H10 hx ⟨y6, rfl, sm10, hga10, hgk10, hq10, hpl10, hrl10, hwt10⟩
              obtain ⟨t, ht, rfl⟩ := get_ref hx
              obtain ⟨s', hs', ht'⟩ := hrl10.get ht
              have hsR : s' ∈ R := by rw [← hR]; exact leav_rows (by rw [hR]; exact hrR) hmA (List.mem_of_getElem? hs')
              obtain ⟨⟨wk', hwk', hwv⟩, hwof⟩ := id hwt10
              obtain ⟨tw, htw, hpr⟩ := hwof s' hsR
              refine ⟨.ref wD, rfl, .ref t, rfl, wD, .ref (wa s'), rfl, (by rw [← hwv s' hsR]; exact DGet.t hwk' (by rw [rk_kV]; exact ht')), .inl ⟨rfl, _, .inl (.inl htw)⟩, .ref qa, rfl, iV m, rfl, by show 2 ≤ sizeLine; decide, fun T2 nT2 => ?_⟩
              have s11 : Same H10 (upd H10 T2 (.tup [.ref qa, iV m])) := same_upd nT2
              have hev : (evMark r m)[l]? = some ((r, m), s') := by unfold evMark; rw [List.getElem?_map, hs']; rfl
              have hlenE : (evs L (R.take i) ++ ((aboveL L r).take j).flatMap (evMark r) ++ (evMark r m).take l).length ≤ 300000 := by
                have p1 := pre_len (f := evMark r) (j := l) hm'
                have p2 := pre_len (f := evRow L) (j := (evRow L r).length) hr2
                have p3 : (evRow L r).length = ((aboveL L r).flatMap (evMark r)).length := rfl
                have p4 : (evs L R).length = (R.flatMap (evRow L)).length := rfl
                have p5 : (evs L (R.take i)).length = ((R.take i).flatMap (evRow L)).length := rfl
                rw [List.length_append] at p1 p2
                rw [List.length_append, List.length_append]
                rw [List.take_length] at p2
                omega
              have hwlen : tw.length ≤ 300000 := by
                have e1 := Paired.length hpr
                have e2 := wait_len (evs L (R.take i) ++ ((aboveL L r).take j).flatMap (evMark r) ++ (evMark r m).take l) s'
                omega
              refine ⟨wa s', _, .ref T2, rfl, rfl, s11 _ _ htw, by rw [List.length_map]; exact sl_lt (by omega), ?_⟩
              have hpush := (hwt10.same s11).push inj hsR (s11 _ _ htw) (hpr.ts (.of s11)) upd_same (s11 _ _ hq10)
              rw [List.map_append] at hpush
              have htw2 := s11 _ _ htw
              have nw := fz (nwa s' hsR)
              refine ⟨some (.ref t), rfl, Same.new (Same.trans sm10 s11) nw, ?_, ?_, ?_, ?_, ?_, ?_⟩
              · exact ⟨⟨gk2, by rw [upd_ne (ne_of (s11 _ _ hgk10) htw2 fun z => nomatch z)]; exact s11 _ _ hgk10, by obtain ⟨gk', e1, e2⟩ := hga10.at_; rw [hgk10] at e1; cases e1; exact e2⟩, fun x hx => by
                  have g1 := s11 _ _ (hga10.of x hx)
                  rw [upd_ne (ne_of g1 htw2 fun z => nomatch z)]
                  exact g1⟩
              · rw [upd_ne (ne_of (s11 _ _ hgk10) htw2 fun z => nomatch z)]; exact s11 _ _ hgk10
              · rw [upd_ne (ne_of (s11 _ _ hq10) htw2 fun z => nomatch z)]; exact s11 _ _ hq10
              · rw [upd_ne (hpn _ hsR)]; exact s11 _ _ hpl10
              · exact (hrl10.ts (.of s11)).ts (TSame.upd htw2 fun _ z => nomatch z)
              · rw [take_next hev, ← List.append_assoc]
                exact hpush
            · rintro σ3 H10 ⟨y6, rfl, sm10, hga10, hgk10, hq10, hpl10, hrl10, hwt10⟩
              refine ⟨some (iV m), y6, rfl, sm10, hga10, hgk10, hq10, ?_⟩
              rw [take_next hm', List.flatMap_append, List.flatMap_cons, List.flatMap_nil, List.append_nil, ← List.append_assoc]
              rw [List.length_map, hrl.len, show (leav r m).length = (evMark r m).length by unfold evMark; rw [List.length_map], List.take_length] at hwt10
              exact hwt10
          · rintro σ2 H8 ⟨y5, y6, rfl, sm8, hga8, hgk8, hq8, hwt8⟩
            refine ⟨some (.ref qa), some (.ref m2), y5, y6, rfl, sm8, ⟨ga2, hga8, inj3, nga2⟩, ⟨gk2, hgk8, hgl7⟩, ?_⟩
            unfold evs
            rw [take_next hr2, List.flatMap_append, List.flatMap_cons, List.flatMap_nil, List.append_nil]
            rw [rV_len, List.take_length] at hwt8
            exact hwt8
      · rintro σ' H'' ⟨y1, y4, y5, y6, rfl, smz, ⟨ga, hga, inj2, nga⟩, _, hwt⟩
        rw [hkl, List.take_length] at hga inj2 nga hwt
        have hdz := smz _ _ hzd
        refine ⟨hdz, ?_⟩
        have s4 : Same H (upd H'' d (.dT kvs)) := unlock_same (o' := .frz od2 (.dT kvs)) (by rw [hHz]; exact smz) hd
        have hg4 : GoodAt (upd H'' d (.dT kvs)) gD L R ga (fun _ _ => true) := hga.upd hdz (ne_of_none hd ngD).symm fun _ z => nomatch z
        have hw4 : WaitAt (upd H'' d (.dT kvs)) wD R wa (evs L R) := hwt.upd hdz (ne_of_none hd nwD0).symm (fun _ z => nomatch z) fun _ z => nomatch z
        generalize upd H'' d (.dT kvs) = H4 at s4 hg4 hw4
        clear hga hwt smz hdz fz zf sz3 hzd hHz hlevz
        -- gone, here, number = ({}, [row for row in above if good[row] == {}], 0)
        refine fun gn ngn => ?_
        have s5 : Same H4 (upd H4 gn (.dT [])) := same_upd ngn
        have hne : gD ≠ gn ∧ wD ≠ gn := by
          obtain ⟨_, e1, _⟩ := hg4.at_
          obtain ⟨_, e2, _⟩ := hw4.at_
          exact ⟨ne_of_none e1 ngn, ne_of_none e2 ngn⟩
        have ngn0 : H gn = none := Same.free s4 ngn
        refine ⟨d, .dT kvs, s5 _ _ (s4 _ _ hd), trivial, fun od3 => ?_⟩
        have hP : Pst H (upd H4 gn (.dT [])) gD wD gn L R ga wa (fun _ _ => true) [] := ⟨Same.trans s4 s5, hg4.same s5, hw4.same s5, [], upd_same, .nil⟩
        generalize upd H4 gn (.dT []) = H5 at s5 hP
        clear s5 hg4 hw4 s4 ngn H4
        refine ⟨.ref d, rfl, d, od3, rfl, .inr ⟨kvs, upd_same, fun hA nhA => ?_⟩⟩
        have hd5 := hP.sm _ _ hd
        generalize hHc : upd H5 d (.frz od3 (.dT kvs)) = Hc at nhA
        have hcd : Hc d = some (.frz od3 (.dT kvs)) := by rw [← hHc]; exact upd_same
        have hgc : GoodAt Hc gD L R ga (fun _ _ => true) := by rw [← hHc]; exact hP.good.upd hd5 (ne_of_none hd ngD).symm fun _ z => nomatch z
        refine lc_it walk_keysT (fun i H' => Same Hc H' ∧ ∃ ts : List Addr, H' hA = some (.lst (ts.map V.ref)) ∧ RowsAt H' ts ((R.take i).filter fun r => decide (gdOf L (fun _ _ => true) r = []))) ⟨same_upd nhA, [], upd_same, .nil⟩ ?_ ?_ ?_
        · rintro i H' hi ⟨sm, _⟩
          exact sm _ _ hcd
        · rintro i x H0' H' hi ⟨sm, ts, hA', hts⟩ ⟨rfl, kk, v, t, hkv, rfl, ht⟩
          obtain ⟨r, _, hr2, rfl, _⟩ := hlev.get hkv
          rw [rk_kV] at ht
          have hrR : r ∈ R := List.mem_of_getElem? hr2
          have hiR : i < R.length := (List.getElem?_eq_some_iff.mp hr2).1
          have hg' := hgc.same sm
          obtain ⟨gk, hgk, hgv⟩ := hg'.at_
          refine ⟨rfl, .ref gD, rfl, .ref t, rfl, gD, .ref (ga r), rfl, (by rw [← hgv r hrR]; exact DGet.t hgk (by rw [rk_kV]; exact ht)), fun e ne => ?_⟩
          have s6 : Same H' (upd H' e (.dT [])) := same_upd ne
          refine ⟨ga r, e, (gdOf L (fun _ _ => true) r).length, rfl, rfl, .inl ⟨_, .inl (s6 _ _ (hg'.of r hrR)), gKV_len _⟩, .inr ⟨[], .inl upd_same, rfl⟩, _, rfl, ?_⟩
          rw [take_next hr2, List.filter_append]
          refine ite2 (fun c => ?_) (fun c => ?_)
          · have c : gdOf L (fun _ _ => true) r = [] := by simpa using c
            have e1 : [r].filter (fun r => decide (gdOf L (fun _ _ => true) r = [])) = [r] := by simp [c]
            rw [e1]
            have hA2 := s6 _ _ hA'
            refine ⟨.ref t, rfl, _, hA2, ?_, Same.new (Same.trans sm s6) nhA, ts ++ [t], ?_, ?_⟩
            · rw [List.length_map, hts.len]
              have h1 := List.length_filter_le (fun r => decide (gdOf L (fun _ _ => true) r = [])) (R.take i)
              rw [List.length_take] at h1
              exact sl_lt (by omega)
            · rw [upd_same, List.map_append]; rfl
            · exact ((hts.ts (.of s6)).snoc (s6 _ _ ht)).ts (TSame.upd hA2 fun _ z => nomatch z)
          · have c : ¬ gdOf L (fun _ _ => true) r = [] := by simpa using c
            have e1 : [r].filter (fun r => decide (gdOf L (fun _ _ => true) r = [])) = [] := by simp [c]
            rw [e1, List.append_nil]
            exact ⟨Same.trans sm s6, ts, s6 _ _ hA', hts.ts (.of s6)⟩
        · rintro H' ⟨sm, ts, hA', hts⟩
          rw [hkl, List.take_length] at hts
          have hdc := sm _ _ hcd
          refine ⟨hdc, _, _, _, rfl, ?_⟩
          have s6 : Same H5 (upd H' d (.dT kvs)) := unlock_same (o' := .frz od3 (.dT kvs)) (by rw [hHc]; exact sm) hd5
          have hP6 := hP.same s6
          have hA6 : (upd H' d (.dT kvs)) hA = some (.lst (ts.map V.ref)) := by rw [upd_ne (ne_of hA' hdc fun z => nomatch z)]; exact hA'
          have hts6 : RowsAt (upd H' d (.dT kvs)) ts (R.filter fun r => decide (gdOf L (fun _ _ => true) r = [])) := hts.ts (TSame.upd hdc fun _ z => nomatch z)
          have hpe : Peel L R [] (R.filter fun r => decide (gdOf L (fun _ _ => true) r = [])) (fun _ _ => true) := by
            refine ⟨List.nodup_nil, ndR.sublist List.filter_sublist, by simp, fun r => ?_, fun r hr m hm => by simp, fun _ _ _ _ _ _ => by simp⟩
            rw [List.mem_filter]
            simp
          generalize upd H' d (.dT kvs) = H6 at s6 hP6 hA6 hts6
          generalize R.filter (fun r => decide (gdOf L (fun _ _ => true) r = [])) = h0 at hts6 hpe
          generalize (fun _ _ => true : List Nat → Nat → Bool) = g0 at hP6 hpe
          clear hts sm hdc hA' s6 hgc hP hd5
          -- while here != []
          refine ⟨fun m σ H' => ∃ y1 y4 y5 y6 hA n y10 ts G h g, σ = [some (.ref d), y1, some (.ref gD), some (.ref wD), y4, y5, y6, some (.ref gn), some (.ref hA), some (.int n), y10] ∧ Pst H H' gD wD gn L R ga wa g G ∧
            H' hA = some (.lst (ts.map V.ref)) ∧ RowsAt H' ts h ∧ Peel L R G h g ∧ m = R.length - G.length, ⟨_, y1, y4, y5, y6, hA, 0, none, ts, [], h0, g0, rfl, hP6, hA6, hts6, hpe, rfl⟩, ?_⟩
          clear hP6 hA6 hts6 hpe
          rintro m σ H1 ⟨y1, y4, y5, y6, hA, n, y10, ts, G, h, g, rfl, hP, hhA, hts, hpe, rfl⟩
          refine ⟨.ref hA, rfl, Nat.zero_le _, fun e0 ne0 => ?_⟩
          have s1 : Same H1 (upd H1 e0 (.lst [])) := same_upd ne0
          refine ⟨.list (h.map dR), .list [], .lst (.inl (.inl (s1 _ _ hhA))) (dp_rows (hts.ts (.of s1))), .lst (.inl (.inl upd_same)) .nil, shaped_list h, by decide, _, rfl, ?_⟩
          replace hP := hP.same s1
          replace hhA := s1 _ _ hhA
          replace hts := hts.ts (.of s1)
          generalize upd H1 e0 (.lst []) = H2 at hP hhA hts
          clear s1 ne0 H1
          have ev : PyData.eqv (.list (h.map dR)) (.list []) = decide (h = []) := by
            rw [← eqv_rows0]
            simp only [PyData.eqv]
          rw [ev]
          refine ite2 (fun c => ?_) (fun c => ?_)
          · have c : h ≠ [] := by simpa using c
            have hiN : ∀ r ∈ h, r ∈ R ∧ r ∉ G := fun r hr => ⟨((hpe.inh r).mp hr).1, ((hpe.inh r).mp hr).2.1⟩
            have ndGh : (G ++ h).Nodup := List.nodup_append.mpr ⟨hpe.ndG, hpe.ndh, fun x hx y hy e => (hiN y hy).2 (by rw [← e]; exact hx)⟩
            have inGh : ∀ r ∈ G ++ h, r ∈ R := fun r hr => (List.mem_append.mp hr).elim (hpe.inG r) fun z => (hiN r z).1
            have lenGh := nodup_sub_len ndGh inGh
            rw [List.length_append] at lenGh
            have h0l : 0 < h.length := List.length_pos_iff.mpr c
            refine ⟨fun σ' H' => ∃ y1 y4 y5 y6 hA n y10 ts G' h' g', σ' = [some (.ref d), y1, some (.ref gD), some (.ref wD), y4, y5, y6, some (.ref gn), some (.ref hA), some (.int n), y10] ∧ Pst H H' gD wD gn L R ga wa g' G' ∧
              H' hA = some (.lst (ts.map V.ref)) ∧ RowsAt H' ts h' ∧ Peel L R G' h' g' ∧ R.length - G'.length < R.length - G.length, ?_, ?_⟩
            · rintro σ' H' ⟨y1, y4, y5, y6, hA, n, y10, ts, G', h', g', e, q1, q2, q3, q4, q5⟩
              exact ⟨_, q5, y1, y4, y5, y6, hA, n, y10, ts, G', h', g', e, q1, q2, q3, q4, rfl⟩
            -- for row in here
            refine ⟨.ref hA, rfl, hA, rfl, ⟨_, .inl (.inl hhA)⟩, ?_⟩
            refine for_list (xs := ts.map V.ref) (fun i σ' H' => ∃ y1, σ' = [some (.ref d), y1, some (.ref gD), some (.ref wD), y4, y5, y6, some (.ref gn), some (.ref hA), some (.int n), y10] ∧ Pst H H' gD wD gn L R ga wa g (G ++ h.take i) ∧
              H' hA = some (.lst (ts.map V.ref)) ∧ RowsAt H' ts h) ?_ ?_ ?_ ?_
            · refine ⟨y1, rfl, ?_, hhA, hts⟩
              rw [List.take_zero, List.append_nil]
              exact hP
            · rintro i σ' H' hi ⟨_, rfl, _, e, _⟩
              exact .inl (.inl e)
            · rintro i x σ' H' hx ⟨y1, rfl, hP, hhA, hts⟩
              obtain ⟨t, ht, rfl⟩ := get_ref hx
              obtain ⟨r, hr, ht'⟩ := hts.get ht
              obtain ⟨kv, hkv, hkp⟩ := hP.gone
              have hkl2 := Paired.length hkp
              have hlt := (List.getElem?_eq_some_iff.mp hr).1
              have hll : (h.take i).length ≤ h.length := by rw [List.length_take]; omega
              rw [List.length_append] at hkl2
              refine ⟨.int n, rfl, .ref gn, rfl, .ref t, rfl, gn, _, rfl, DPut.t (k := rk r) hkv (by rw [rk_kV]; exact ht') (sl_lt (by omega)), ?_⟩
              have hnr : r ∉ G ++ h.take i := by
                have h1 : (G ++ h.take (i + 1)).Nodup := ndGh.sublist ((List.Sublist.refl _).append (List.take_sublist _ _))
                rw [take_next hr, ← List.append_assoc, List.nodup_append] at h1
                exact fun hm => h1.2.2 r hm r (by simp) rfl
              have hput := keys_put hkp r (.int n)
              rw [if_neg hnr, List.append_assoc, ← take_next hr] at hput
              refine ⟨some (.ref t), rfl, ⟨Same.new hP.sm ngn0, hP.good.upd hkv hne.1 (fun _ z => nomatch z), hP.wait.upd hkv hne.2 (fun _ z => nomatch z) (fun _ z => nomatch z), _, upd_same, hput⟩, ?_, hts.ts (TSame.upd hkv fun _ z => nomatch z)⟩
              rw [upd_ne (ne_of hhA hkv fun z => nomatch z)]
              exact hhA
            · rintro σ' H' ⟨y1, rfl, hP, hhA, hts⟩
              rw [List.length_map, hts.len, List.take_length] at hP
              -- later = {}
              refine fun lt nlt => ?_
              have nlt0 : H lt = none := Same.free hP.sm nlt
              have hnel := hP.ne nlt
              have s1 : Same H' (upd H' lt (.dT [])) := same_upd nlt
              replace hP := hP.same s1
              replace hhA := s1 _ _ hhA
              replace hts := hts.ts (.of s1)
              have hK : KeysAt (upd H' lt (.dT [])) lt [] := ⟨[], upd_same, .nil⟩
              generalize upd H' lt (.dT []) = H3 at hP hhA hts hK
              clear s1 nlt H'
              have hEv : ∀ {s' r m}, (r, m) ∈ waitOf (evs L R) s' → r ∈ R ∧ m ∈ aboveL L r ∧ s' ∈ leav r m := fun hm => mem_evs.mp (mem_wait.mp hm)
              -- for part in here
              refine ⟨.ref hA, rfl, hA, rfl, ⟨_, .inl (.inl hhA)⟩, ?_⟩
              refine for_list (xs := ts.map V.ref) (fun i σ' H' => ∃ y1 y5 y6, σ' = [some (.ref d), y1, some (.ref gD), some (.ref wD), y4, y5, y6, some (.ref gn), some (.ref hA), some (.int n), some (.ref lt)] ∧
                ∃ gi Lr, Pst H H' gD wD gn L R ga wa gi (G ++ h) ∧ H' hA = some (.lst (ts.map V.ref)) ∧ RowsAt H' ts h ∧ KeysAt H' lt Lr ∧ Lr.Nodup ∧ (∀ r, r ∈ Lr ↔ r ∈ R ∧ r ∉ G ++ h ∧ gdOf L gi r = []) ∧
                  ∀ r ∈ R, ∀ m ∈ aboveL L r, (gi r m = true ↔ g r m = true ∧ ∀ s ∈ h.take i, s ∉ leav r m)) ?_ ?_ ?_ ?_
              · refine ⟨y1, y5, y6, rfl, g, [], hP, hhA, hts, hK, List.nodup_nil, fun r => ⟨fun z => (nomatch z), fun ⟨z1, z2, z3⟩ => ?_⟩, fun r hr m hm => by simp⟩
                rw [List.mem_append, not_or] at z2
                exact absurd ((hpe.inh r).mpr ⟨z1, z2.1, z3⟩) z2.2
              · rintro i σ' H' hi ⟨_, _, _, rfl, _, _, _, e, _⟩
                exact .inl (.inl e)
              · rintro i x σ' H' hx ⟨y1, y5, y6, rfl, gi, Lr, hP, hhA, hts, hK, hLn, hLr, hgi⟩
                obtain ⟨t, ht, rfl⟩ := get_ref hx
                obtain ⟨s', hs', ht'⟩ := hts.get ht
                have hsR := (hiN s' (List.mem_of_getElem? hs')).1
                obtain ⟨⟨wk', hwk', hwv⟩, hwof⟩ := id hP.wait
                obtain ⟨tw, htw, hpr⟩ := hwof s' hsR
                refine ⟨.ref wD, rfl, .ref t, rfl, wD, .ref (wa s'), rfl, (by rw [← hwv s' hsR]; exact DGet.t hwk' (by rw [rk_kV]; exact ht')), wa s', rfl, ⟨_, .inl (.inl htw)⟩, ?_⟩
                refine for_list (xs := tw.map V.ref) (fun j σ2 H' => ∃ y1 y5, σ2 = [some (.ref d), y1, some (.ref gD), some (.ref wD), y4, y5, some (.ref t), some (.ref gn), some (.ref hA), some (.int n), some (.ref lt)] ∧
                  ∃ gj Lr, Pst H H' gD wD gn L R ga wa gj (G ++ h) ∧ H' hA = some (.lst (ts.map V.ref)) ∧ RowsAt H' ts h ∧ KeysAt H' lt Lr ∧ Lr.Nodup ∧ (∀ r, r ∈ Lr ↔ r ∈ R ∧ r ∉ G ++ h ∧ gdOf L gj r = []) ∧
                    (∀ r ∈ R, ∀ m ∈ aboveL L r, (gj r m = true ↔ gi r m = true ∧ (r, m) ∉ (waitOf (evs L R) s').take j)) ∧ H' (wa s') = some (.lst (tw.map V.ref)) ∧ PrAt H' tw (waitOf (evs L R) s')) ?_ ?_ ?_ ?_
                · exact ⟨y1, y5, rfl, gi, Lr, hP, hhA, hts, hK, hLn, hLr, fun r hr m hm => by simp, htw, hpr⟩
                · rintro j σ2 H' hj ⟨_, _, rfl, _, _, _, _, _, _, _, _, _, e, _⟩
                  exact .inl (.inl e)
                · clear hP hhA hts hK hLn hLr htw hpr hwk' hwof ht' Lr
                  rintro j x σ2 H' hx2 ⟨y1, y5, rfl, gj, Lr, hP, hhA, hts, hK, hLn, hLr, hgj, htw, hpr⟩
                  obtain ⟨t2, ht2, rfl⟩ := get_ref hx2
                  obtain ⟨⟨r0, m0⟩, he, q0, ht3, hq0⟩ := paired_get hpr ht2
                  replace hq0 : H' q0 = some (.tup (rV r0)) := hq0
                  obtain ⟨h0R, hm0, hleav⟩ := hEv (List.mem_of_getElem? he)
                  refine ⟨t2, [.ref q0, iV m0], rfl, .inl (.inl ht3), rfl, .ref q0, [iV m0], rfl, iV m0, [], rfl, rfl, ?_⟩
                  obtain ⟨gk, hgk, hgv⟩ := hP.good.at_
                  have hga0 := hP.good.of r0 h0R
                  refine ⟨.ref gD, rfl, .ref q0, rfl, gD, .ref (ga r0), rfl, (by rw [← hgv r0 h0R]; exact DGet.t hgk (by rw [rk_kV]; exact hq0)), ga r0, rfl, .inl ⟨_, .inl hga0⟩, iV m0, rfl, _, kN m0, hga0, rfl, pop_both (z := .non) (fun _ _ h => h) hga0 ?_⟩
                  have hP2 : Pst H (upd H' (ga r0) (.dK (dropK (gKV (gdOf L gj r0)) (kN m0)))) gD wD gn L R ga wa (gPop gj r0 m0) (G ++ h) := by
                    refine ⟨Same.new hP.sm (nga r0 h0R), hP.good.pop inj2 h0R m0, hP.wait.upd hga0 ?_ (fun _ z => nomatch z) (fun _ z => nomatch z), hP.gone.upd ?_⟩
                    · obtain ⟨_, e1, _⟩ := hP.wait.at_
                      exact ne_of e1 hga0 fun z => nomatch z
                    · obtain ⟨_, e1, _⟩ := hP.gone
                      exact ne_of e1 hga0 fun z => nomatch z
                  have tsm : TSame H' (upd H' (ga r0) (.dK (dropK (gKV (gdOf L gj r0)) (kN m0)))) := TSame.upd hga0 fun _ z => nomatch z
                  have hhA2 : (upd H' (ga r0) (.dK (dropK (gKV (gdOf L gj r0)) (kN m0)))) hA = some (.lst (ts.map V.ref)) := by rw [upd_ne (ne_of hhA hga0 fun z => nomatch z)]; exact hhA
                  have htw2 : (upd H' (ga r0) (.dK (dropK (gKV (gdOf L gj r0)) (kN m0)))) (wa s') = some (.lst (tw.map V.ref)) := by rw [upd_ne (ne_of htw hga0 fun z => nomatch z)]; exact htw
                  have hK2 : KeysAt (upd H' (ga r0) (.dK (dropK (gKV (gdOf L gj r0)) (kN m0)))) lt Lr := hK.upd (by
                    obtain ⟨_, e1, _⟩ := hK
                    exact ne_of e1 hga0 fun z => nomatch z)
                  replace hts := hts.ts tsm
                  replace hpr := hpr.ts tsm
                  replace hq0 := tsm _ _ hq0
                  generalize upd H' (ga r0) (.dK (dropK (gKV (gdOf L gj r0)) (kN m0))) = H5 at hP2 hhA2 htw2 hK2 hts hpr hq0
                  clear hhA hK hP tsm hga0 hgk hgv ht3 H' htw
                  -- if good[row] == {} and row not in gone
                  obtain ⟨gk, hgk, hgv⟩ := hP2.good.at_
                  refine ⟨.ref gD, rfl, .ref q0, rfl, gD, .ref (ga r0), rfl, (by rw [← hgv r0 h0R]; exact DGet.t hgk (by rw [rk_kV]; exact hq0)), fun e ne => ?_⟩
                  have s6 : Same H5 (upd H5 e (.dT [])) := same_upd ne
                  refine ⟨ga r0, e, (gdOf L (gPop gj r0 m0) r0).length, rfl, rfl, .inl ⟨_, .inl (s6 _ _ (hP2.good.of r0 h0R)), gKV_len _⟩, .inr ⟨[], .inl upd_same, rfl⟩, _, rfl, ?_⟩
                  replace hP2 := hP2.same s6
                  replace hhA2 := s6 _ _ hhA2
                  replace htw2 := s6 _ _ htw2
                  replace hK2 := hK2.same s6
                  replace hts := hts.ts (.of s6)
                  replace hpr := hpr.ts (.of s6)
                  replace hq0 := s6 _ _ hq0
                  generalize upd H5 e (.dT []) = H6 at hP2 hhA2 htw2 hK2 hts hpr hq0
                  clear s6 ne hgk hgv H5
                  have hgj2 : ∀ r ∈ R, ∀ m ∈ aboveL L r, (gPop gj r0 m0 r m = true ↔ gi r m = true ∧ (r, m) ∉ (waitOf (evs L R) s').take (j + 1)) := fun r hr m hm => by
                    rw [take_next he, List.mem_append]
                    unfold gPop
                    rw [Bool.and_eq_true, hgj r hr m hm]
                    simp only [Bool.not_eq_true', decide_eq_false_iff_not, not_or, List.mem_singleton, Prod.mk.injEq, and_assoc]
                  have same_case : ¬ (gdOf L (gPop gj r0 m0) r0 = [] ∧ r0 ∉ G ++ h) → ∃ y1' y5', [some (.ref d), some (.ref q0), some (.ref gD), some (.ref wD), y4, some (iV m0), some (.ref t), some (.ref gn), some (.ref hA), some (.int n), some (.ref lt)] = [some (.ref d), y1', some (.ref gD), some (.ref wD), y4, y5', some (.ref t), some (.ref gn), some (.ref hA), some (.int n), some (.ref lt)] ∧
                      ∃ gj' Lr', Pst H H6 gD wD gn L R ga wa gj' (G ++ h) ∧ H6 hA = some (.lst (ts.map V.ref)) ∧ RowsAt H6 ts h ∧ KeysAt H6 lt Lr' ∧ Lr'.Nodup ∧ (∀ r, r ∈ Lr' ↔ r ∈ R ∧ r ∉ G ++ h ∧ gdOf L gj' r = []) ∧
                        (∀ r ∈ R, ∀ m ∈ aboveL L r, (gj' r m = true ↔ gi r m = true ∧ (r, m) ∉ (waitOf (evs L R) s').take (j + 1))) ∧ H6 (wa s') = some (.lst (tw.map V.ref)) ∧ PrAt H6 tw (waitOf (evs L R) s') :=
                    fun c => ⟨some (.ref q0), some (iV m0), rfl, gPop gj r0 m0, Lr, hP2, hhA2, hts, hK2, hLn, later_same hLr c, hgj2, htw2, hpr⟩
                  obtain ⟨gov, hgo, hgp⟩ := hP2.gone
                  refine ite2 (fun c1 => ?_) (fun c1 => ?_)
                  · have c1 : gdOf L (gPop gj r0 m0) r0 = [] := by simpa using c1
                    refine ⟨.ref q0, rfl, .ref gn, rfl, gn, _, rfl, DGet.t (k := rk r0) hgo (by rw [rk_kV]; exact hq0), _, rfl, ?_⟩
                    rw [keys_val hgp]
                    refine ite2 (fun c2 => ?_) (fun c2 => ?_)
                    · have c2 : r0 ∉ G ++ h := by simpa using c2
                      obtain ⟨lv, hlv, hlp⟩ := id hK2
                      have hll : lv.length ≤ 6561 := by
                        rw [Paired.length hlp]
                        exact Nat.le_trans (nodup_sub_len hLn fun r hr => ((hLr r).mp hr).1) hfew
                      refine ⟨.ref lt, rfl, .ref q0, rfl, lt, _, rfl, DPut.t (k := rk r0) hlv (by rw [rk_kV]; exact hq0) (sl_lt (by omega)), ?_⟩
                      refine ⟨some (.ref q0), some (iV m0), rfl, gPop gj r0 m0, _, hP2.own _ nlt0 hlv hnel, ?_, hts.ts (TSame.upd hlv fun _ z => nomatch z), ⟨_, upd_same, keys_put hlp r0 _⟩, later_nodup hLn, later_put h0R hLr c1 c2, hgj2, ?_, hpr.ts (TSame.upd hlv fun _ z => nomatch z)⟩
                      · rw [upd_ne (ne_of hhA2 hlv fun z => nomatch z)]; exact hhA2
                      · rw [upd_ne (ne_of htw2 hlv fun z => nomatch z)]; exact htw2
                    · have c2 : ¬ r0 ∉ G ++ h := by simpa using c2
                      exact same_case fun z => c2 z.2
                  · have c1 : ¬ gdOf L (gPop gj r0 m0) r0 = [] := by simpa using c1
                    exact same_case fun z => c1 z.1
                · rintro σ2 H' ⟨y1, y5, rfl, gj, Lr, hP, hhA, hts, hK, hLn, hLr, hgj, htw, hpr⟩
                  refine ⟨y1, y5, some (.ref t), rfl, gj, Lr, hP, hhA, hts, hK, hLn, hLr, fun r hr m hm => ?_⟩
                  rw [hgj r hr m hm, hgi r hr m hm, List.length_map, Paired.length hpr, List.take_length, take_next hs']
                  have : (r, m) ∈ waitOf (evs L R) s' ↔ s' ∈ leav r m := by rw [mem_wait, mem_evs]; exact ⟨fun z => z.2.2, fun z => ⟨hr, hm, z⟩⟩
                  rw [this]
                  constructor
                  · rintro ⟨⟨z1, z2⟩, z3⟩
                    refine ⟨z1, fun s hs => ?_⟩
                    rcases List.mem_append.mp hs with z | z
                    · exact z2 s z
                    · have : s = s' := by simpa using z
                      rw [this]; exact z3
                  · rintro ⟨z1, z2⟩
                    exact ⟨⟨z1, fun s hs => z2 s (List.mem_append_left _ hs)⟩, z2 s' (by simp)⟩
              · rintro σ' H' ⟨y1, y5, y6, rfl, gi, Lr, hP, hhA, hts, hK, hLn, hLr, hgi⟩
                rw [List.length_map, hts.len, List.take_length] at hgi
                obtain ⟨lv, hlv, hlp⟩ := hK
                refine ⟨.ref lt, rfl, lt, lv, rfl, .inl hlv, fun hA2 bs nA2 hbs => ?_⟩
                have s7 : Same H' (upd H' hA2 (.lst (bs.map V.ref))) := same_upd nA2
                refine ⟨.int n, rfl, _, _, rfl, rfl, _, _, rfl, ?_⟩
                refine ⟨y1, y4, y5, y6, hA2, n + 1, some (.ref lt), bs, G ++ h, Lr, gi, rfl, hP.same s7, upd_same, (isKeys_rows hlp hbs).ts (.of s7), hpe.step hR.symm rfl hLn hgi hLr, ?_⟩
                rw [List.length_append]
                omega
          · have c : h = [] := by simpa using c
            subst c
            rw [← hR] at hpe
            obtain ⟨f1, f2⟩ := hpe.done
            rw [hR] at f1 f2
            exact ⟨.ref gn, rfl, q H2 gn G hP.sm hP.gone f1 f2⟩
end
end K9

set_option Elab.async false
set_option linter.all false
set_option maxRecDepth 100000
namespace K9
open PySem PySem.Spec PyProof.Rows L2
/-! ### a list of tuples of ints -/
def dI (p : Addr × List Int) : PyData := .tuple (p.2.map .int)
theorem dp_ri {K : PySem.W.Frag} {H : Hp} : ∀ {ys : List (Addr × List Int)}, (∀ p ∈ ys, H p.1 = some (.tup (p.2.map V.int))) → DpAll K H (ys.map tI) (ys.map dI)
  | [], _ => .nil
  | p :: ys, h => .cons (.tup (.inl (.inl (h p (by simp)))) (dp_ints _)) (dp_ri fun q hq => h q (by simp [hq]))
theorem lay_ri : ∀ ys : List (Addr × List Int), PyData.canLayAll0 (ys.map dI) = true
  | [] => by simp only [List.map_nil, PyData.canLayAll0]
  | r :: rs => by simp only [List.map_cons, PyData.canLayAll0, dI, PyData.canLay0, lay_ints, lay_ri rs, Bool.and_self]
theorem depth_ri : ∀ ys : List (Addr × List Int), PyData.depthAll (ys.map dI) ≤ 1
  | [] => by simp only [List.map_nil, PyData.depthAll]; omega
  | r :: rs => by
    have h1 := depth_ri rs
    have h2 := PySem.W.depth_ints r.2
    simp only [List.map_cons, PyData.depthAll, dI, PyData.depth, h2]
    omega
theorem shaped_ri (ys : List (Addr × List Int)) : SeqAt.shaped (.tuple (ys.map dI)) = true := by
  have h := depth_ri ys
  unfold SeqAt.shaped
  rw [Bool.and_eq_true]
  exact ⟨by simp only [PyData.canLay0, lay_ri], decide_eq_true (by simp only [PyData.depth]; omega)⟩
theorem rows_ri {H : Hp} {ts : List Addr} {rs : List (List Nat)} (h : RowsAt H ts rs) : ∃ es : List (Addr × List Int), es.map tI = ts.map V.ref ∧ es.length = rs.length ∧ ∀ p ∈ es, H p.1 = some (.tup (p.2.map V.int)) ∧ ∃ r ∈ rs, p.2.length = r.length := by
  unfold RowsAt at h
  induction h with
  | nil => exact ⟨[], rfl, rfl, by simp⟩
  | @cons t r ts rs h1 h2 ih =>
    obtain ⟨es, e1, e2, e3⟩ := ih
    refine ⟨(t, r.map fun n : Nat => (n : Int)) :: es, by rw [List.map_cons, e1]; rfl, by simp [e2], fun p hp => ?_⟩
    rcases List.mem_cons.mp hp with z | z
    · subst z
      exact ⟨by rw [h1, rV_ints], r, by simp, by simp⟩
    · obtain ⟨g1, r', g2, g3⟩ := e3 p z
      exact ⟨g1, r', by simp [g2], g3⟩
theorem eqv_ri0 (ys : List (Addr × List Int)) : PyData.eqvAll (ys.map dI) [] = decide (ys = []) := by
  cases ys with
  | nil => simp [PyData.eqvAll]
  | cons r rs => simp [PyData.eqvAll]
section
variable {P : Program} {w : World} {K : PySem.W.Frag} {mg : Str → Option Value} {base : Heap}
/-! ### book -/
def spBook : Sp := fun vs H Q _ => ∃ (a : Addr) (L : Lt) (k : Nat), vs = [.ref a, iV (k + 1)] ∧ LotAt H a L ∧ LF L ∧ k ≤ 4 ∧
  ∀ H' p (ys : List (Addr × List Int)), Same H H' → H' p = some (.tup (ys.map tI)) → (∀ p ∈ ys, H' p.1 = some (.tup (p.2.map V.int))) → (ys ≠ [] ↔ SrvL L (k + 1)) → Q (.ref p) H'
theorem scBook : FnScope ["lot", "n", "above", "gone", "row"] ["lot", "n"] (defScope sBook) := ⟨rfl, rfl, rfl, by decide +kernel, rfl, by decide +kernel, by decide +kernel⟩
theorem ok_book {f fL fP : Addr} {fd fdL fdP : FuncData} (F : Fun K "book" "book" sBook f fd) (CL : Cal P w K mg base "levels" 2 ["lot", "most"] spLevels fL fdL) (CP : Cal P w K mg base "peeled" 2 ["above"] spPeel fP fdP)
    (mt : mg "tuple" = none) (ms : mg "sorted" = none) : FnOk P w K mg base CX0 3 f fd ["lot", "n"] spBook := by
  refine F.ok scBook (fun vs H Q E h => ?_) (fun cdv A outer s H vs Q E hr h => ?_)
  · obtain ⟨d, L, k, rfl, _⟩ := h
    rfl
  · obtain ⟨a, L, k, rfl, hL, lf, hk, q⟩ := h
    refine ⟨_, pss_cons (ps_set (i := 2) scBook.nd rfl (.inl rfl) (pe_ix ix_list (pe_call CL.ok hr (by rfl) CL.g CL.kp CL.b .nil pass0 (pa_cons (pv 0) (pa_cons (pe_op op_sub (pv 1) pe_int) pa_nil))) (pe_un un_neg pe_int) (fun _ _ => rfl)))
      (pss_cons (ps_set (i := 3) scBook.nd rfl (.inr rfl) (pe_call CP.ok hr (by rfl) CP.g CP.kp CP.b .nil pass0 (pa_cons (pv 2) pa_nil)))
      (pss_one (ps_ret (pe_callTy call_tuple_of (by rfl) mt rfl (pa_cons (pe_callB (cr_sortR hr.units) (by rfl) ms rfl (pa_cons (pe_lock (pe_lc (own := [("row", 4)]) (g := gName 4) (te := tVar 4) (tt := tB (tDNotIn (tVar 4) (tVar 3))) rfl scBook.nd (pi_keys (pv 2))
            (blkOk_by (own := [("row", 4)]) (N := ["lot", "n", "above", "gone", "row"]) (sc := defScope sBook) (by decide +kernel))
            (fun _ _ _ _ _ => pg_name (i := 4) scBook.nd rfl (.inl rfl)) (fun _ _ _ _ _ => pts_one (pt_cmp (pc_dnotin (hu_of hr) (pv 4) (pv 3)))) (fun _ _ _ _ _ => pv 4))) pa_nil)) pa_nil))))), ?_⟩
    refine ⟨.ref a, rfl, iV (k + 1), rfl, ((k + 1 : Nat) : Int), 1, rfl, rfl, a, L, k, ?_, hL, lf, hk, fun H1 D ds d s1 hD hlev => ?_⟩
    · show [V.ref a, V.int (((k + 1 : Nat) : Int) - 1)] = [V.ref a, V.int (k : Int)]
      rw [show ((k + 1 : Nat) : Int) - 1 = (k : Int) by omega]
    · refine ⟨1, rfl, D, _, -1, .ref d, rfl, rfl, .inl (.inl hD), by rw [List.map_append]; exact atI_last _ _, ?_⟩
      refine ⟨.ref d, rfl, d, L, k, rfl, hlev, lf, hk, fun H2 gn G s2 hG hcl hgr => ?_⟩
      have hlev2 := hlev.same s2
      obtain ⟨kvs, hd, hlv⟩ := hlev2
      have hkl := Paired.length hlv
      have hfew := rows_few lf.few hk
      refine ⟨d, .dT kvs, hd, trivial, fun od => ?_⟩
      refine ⟨.ref d, rfl, d, od, rfl, .inr ⟨kvs, upd_same, fun hA nhA => ?_⟩⟩
      have hnz : gn ≠ d ∨ True := .inr trivial
      generalize hHc : upd H2 d (.frz od (.dT kvs)) = Hc at nhA
      have hcd : Hc d = some (.frz od (.dT kvs)) := by rw [← hHc]; exact upd_same
      have hGc : ∃ gv : List (List Key × V), Rd Hc gn (.dT gv) ∧ Paired (fun (kv : List Key × V) (r : List Nat) => kv.1 = rk r ∧ True) gv G := by
        obtain ⟨gv, g1, g2⟩ := hG
        by_cases e : gn = d
        · subst e
          rw [hd] at g1
          cases g1
          exact ⟨kvs, .inr ⟨od, hcd⟩, g2⟩
        · refine ⟨gv, .inl ?_, g2⟩
          rw [← hHc, upd_ne e]
          exact g1
      obtain ⟨gv, hgv, hgp⟩ := hGc
      refine lc_it walk_keysT (fun i H' => Same Hc H' ∧ ∃ ts : List Addr, H' hA = some (.lst (ts.map V.ref)) ∧ RowsAt H' ts (((rowsL L k).take i).filter fun r => decide (r ∉ G))) ⟨same_upd nhA, [], upd_same, .nil⟩ ?_ ?_ ?_
      · rintro i H' hi ⟨sm, _⟩
        exact sm _ _ hcd
      · rintro i x H0' H' hi ⟨sm, ts, hA', hts⟩ ⟨rfl, kk, v, t, hkv, rfl, ht⟩
        obtain ⟨r, _, hr2, rfl, _⟩ := hlv.get hkv
        rw [rk_kV] at ht
        have hiR : i < (rowsL L k).length := (List.getElem?_eq_some_iff.mp hr2).1
        refine ⟨rfl, .ref t, rfl, .ref gn, rfl, gn, _, rfl, .inr ⟨gv, rk r, t, ?_, rfl, by rw [rk_kV]; exact ht, rfl⟩, _, rfl, ?_⟩
        · exact hgv.elim (fun e => .inl (sm _ _ e)) fun ⟨o, e⟩ => .inr ⟨o, sm _ _ e⟩
        · rw [keys_val hgp, take_next hr2, List.filter_append]
          refine ite2 (fun c => ?_) (fun c => ?_)
          · have c : r ∉ G := by simpa using c
            have e1 : [r].filter (fun r => decide (r ∉ G)) = [r] := by simp [c]
            rw [e1]
            refine ⟨.ref t, rfl, _, hA', ?_, Same.new sm nhA, ts ++ [t], ?_, ?_⟩
            · rw [List.length_map, hts.len]
              have h1 := List.length_filter_le (fun r => decide (r ∉ G)) ((rowsL L k).take i)
              rw [List.length_take] at h1
              exact sl_lt (by omega)
            · rw [upd_same, List.map_append]; rfl
            · exact (hts.snoc ht).ts (TSame.upd hA' fun _ z => nomatch z)
          · have c : ¬ r ∉ G := by simpa using c
            have e1 : [r].filter (fun r => decide (r ∉ G)) = [] := by simp only [List.filter_cons, List.filter_nil, decide_eq_true_eq, if_neg c]
            rw [e1, List.append_nil]
            exact ⟨sm, ts, hA', hts⟩
      · rintro H' ⟨sm, ts, hA', hts⟩
        rw [hkl, List.take_length] at hts
        have hdc := sm _ _ hcd
        refine ⟨hdc, ?_⟩
        have s3 : Same H2 (upd H' d (.dT kvs)) := unlock_same (o' := .frz od (.dT kvs)) (by rw [hHc]; exact sm) hd
        have hA3 : (upd H' d (.dT kvs)) hA = some (.lst (ts.map V.ref)) := by rw [upd_ne (ne_of hA' hdc fun z => nomatch z)]; exact hA'
        replace hts := hts.ts (TSame.upd (o := .dT kvs) hdc fun _ z => nomatch z)
        generalize upd H' d (.dT kvs) = H3 at s3 hA3 hts
        obtain ⟨es, e1, e2, e3⟩ := rows_ri hts
        refine ⟨hA, es, rfl, by rw [e1]; exact .inl (.inl hA3), fun h2 p hp => ⟨.inl (.inl (e3 p hp).1), ?_⟩, fun ys pS hperm npS => ?_⟩
        · obtain ⟨_, r, hr, hlr⟩ := e3 p hp
          have hrr := (mem_rows.mp (List.mem_filter.mp hr).1).2
          intro z
          rw [z, hrr] at hlr
          -- one row of no marks
          have k0 : k = 0 := hlr.symm
          subst k0
          have h1 := List.length_filter_le (fun r => decide (r ∉ G)) (rowsL L 0)
          have h3 : (rowsL L 0).length = 1 := rfl
          omega
        · have s4 : Same H3 (upd H3 pS (.lst (ys.map tI))) := same_upd npS
          refine ⟨pS, ys.map tI, rfl, .inl ⟨.inl (.inl upd_same), fun l nl => ?_⟩⟩
          have s5 : Same (upd H3 pS (.lst (ys.map tI))) (upd (upd H3 pS (.lst (ys.map tI))) l (.tup (ys.map tI))) := same_upd nl
          refine q _ l ys (Same.trans s1 (Same.trans s2 (Same.trans s3 (Same.trans s4 s5)))) upd_same (fun p hp => s5 _ _ (s4 _ _ (e3 p (hperm.mem_iff.mp hp)).1)) ?_
          rw [serves_iff hcl hgr]
          constructor
          · intro hne
            obtain ⟨p, hp⟩ := List.exists_mem_of_ne_nil _ hne
            obtain ⟨_, r, hr, _⟩ := e3 p (hperm.mem_iff.mp hp)
            obtain ⟨h1, h2⟩ := List.mem_filter.mp hr
            exact ⟨r, h1, by simpa using h2⟩
          · rintro ⟨r, h1, h2⟩ hn
            have h3 : r ∈ (rowsL L k).filter fun r => decide (r ∉ G) := List.mem_filter.mpr ⟨h1, by simpa using h2⟩
            rw [hn] at hperm
            have h4 := hperm.length_eq
            rw [e2] at h4
            have h5 := List.length_pos_of_mem h3
            rw [← h4] at h5
            exact absurd h5 (by simp)
/-! ### serves -/
def spServes : Sp := fun vs H Q _ => ∃ (a : Addr) (L : Lt) (k : Nat), vs = [.ref a, iV (k + 1)] ∧ LotAt H a L ∧ LF L ∧ k ≤ 4 ∧ ∀ H' b, Same H H' → (b = true ↔ SrvL L (k + 1)) → Q (.bl b) H'
theorem scServes : FnScope ["lot", "n"] ["lot", "n"] (defScope sServes) := ⟨rfl, rfl, rfl, by decide +kernel, rfl, by decide +kernel, by decide +kernel⟩
theorem ok_serves {f fB : Addr} {fd fdB : FuncData} (F : Fun K "serves" "serves" sServes f fd) (CB : Cal P w K mg base "book" 3 ["lot", "n"] spBook fB fdB) : FnOk P w K mg base CX0 4 f fd ["lot", "n"] spServes := by
  refine F.ok scServes (fun vs H Q E h => ?_) (fun cdv A outer s H vs Q E hr h => ?_)
  · obtain ⟨d, L, k, rfl, _⟩ := h
    rfl
  · obtain ⟨a, L, k, rfl, hL, lf, hk, q⟩ := h
    refine ⟨_, pss_one (ps_ret (pe_cmpR (op_neD hr.units) (pe_call CB.ok hr (by rfl) CB.g CB.kp CB.b .nil pass0 (pa_cons (pv 0) (pa_cons (pv 1) pa_nil))) (pe_tup pa_nil) rfl)), ?_⟩
    refine ⟨.ref a, rfl, iV (k + 1), rfl, a, L, k, rfl, hL, lf, hk, fun H1 p ys s1 hp hys hiff => ?_⟩
    refine ⟨Nat.zero_le _, fun t nt => ?_⟩
    have s2 : Same H1 (upd H1 t (.tup [])) := same_upd nt
    refine ⟨.tuple (ys.map dI), .tuple [], .tup (.inl (.inl (s2 _ _ hp))) (dp_ri fun p hp => s2 _ _ (hys p hp)), .tup (.inl (.inl upd_same)) .nil, shaped_ri ys, by decide, ?_⟩
    refine q _ _ (Same.trans s1 s2) ?_
    rw [← hiff, show PyData.eqv (.tuple (ys.map dI)) (.tuple []) = decide (ys = []) by rw [← eqv_ri0]; simp only [PyData.eqv]]
    simp
/-! ### reach -/
def spReach : Sp := fun vs H Q _ => ∃ (a : Addr) (L : Lt), vs = [.ref a] ∧ LotAt H a L ∧ LF L ∧ rho L ≤ 5 ∧ ∀ H', Same H H' → Q (iV (rho L)) H'
theorem scReach : FnScope ["lot", "found"] ["lot"] (defScope sReach) := ⟨rfl, rfl, rfl, by decide +kernel, rfl, by decide +kernel, by decide +kernel⟩
theorem ok_reach {f fS : Addr} {fd fdS : FuncData} (F : Fun K "reach" "reach" sReach f fd) (CS : Cal P w K mg base "serves" 4 ["lot", "n"] spServes fS fdS) (mm : ∃ u, mg "MOST_SLOTS" = some u ∧ RelV (.int 5) u) : FnOk P w K mg base CX0 5 f fd ["lot"] spReach := by
  refine F.ok scReach (fun vs H Q E h => ?_) (fun cdv A outer s H vs Q E hr h => ?_)
  · obtain ⟨d, L, rfl, _⟩ := h
    rfl
  · obtain ⟨a, L, rfl, hL, lf, h5, q⟩ := h
    obtain ⟨um, hmu, rmu⟩ := mm
    refine ⟨_, pss_cons (ps_set (i := 1) scReach.nd rfl (.inl rfl) pe_int)
      (pss_cons (ps_while PassesOwn.never ((pw_and (pt_cmp (pc_lt (pv 1) (pe_glob (by rfl) hmu rmu))) (pw_and1 (pt_val (pe_call CS.ok hr (by rfl) CS.g CS.kp CS.b .nil pass0 (pa_cons (pv 0) (pa_cons (pe_op op_add (pv 1) pe_int) pa_nil)))))).pt)
        (pss_one (ps_aug (i := 1) scReach.nd rfl (.inl rfl) pe_int ip_add)))
      (pss_one (ps_ret (pv 1)))), ?_⟩
    refine ⟨fun m σ H' => ∃ f : Nat, σ = [some (.ref a), some (iV f)] ∧ Same H H' ∧ SrvL L f ∧ f ≤ 5 ∧ m = 5 - f, ⟨5, 0, rfl, Same.refl _, serves_zero _ _, by omega, rfl⟩, ?_⟩
    rintro m σ H' ⟨f, rfl, sm, hf, hf5, rfl⟩
    refine ⟨iV f, rfl, f, 5, rfl, rfl, _, rfl, ?_⟩
    refine ite2 (fun c => ?_) (fun c => ?_)
    · have c : f < 5 := by
        have := of_decide_eq_true c
        omega
      refine ⟨.ref a, rfl, iV f, rfl, f, 1, rfl, rfl, a, L, f, ?_, hL.same sm, lf, by omega, fun H2 b s2 hb => ⟨b, rfl, ?_⟩⟩
      · rfl
      · refine ite2 (fun c2 => ?_) (fun c2 => ?_)
        · refine ⟨fun σ' H'' => ∃ f' : Nat, σ' = [some (.ref a), some (iV f')] ∧ Same H H'' ∧ SrvL L f' ∧ f' ≤ 5 ∧ 5 - f' < 5 - f, ?_, ?_⟩
          · rintro σ' H'' ⟨f', q1, q2, q3, q4, q5⟩
            exact ⟨_, q5, f', q1, q2, q3, q4, rfl⟩
          · exact ⟨iV f, rfl, f, 1, rfl, rfl, f + 1, rfl, Same.trans sm s2, hb.mp c2, by omega, by omega⟩
        · have e := rho_found lf.ok h5 hf (.inr fun z => c2 (hb.mpr z))
          refine ⟨iV f, rfl, ?_⟩
          rw [e]
          exact q _ (Same.trans sm s2)
    · have c : 5 ≤ f := Nat.le_of_not_lt fun z => c (decide_eq_true (by omega : (f : Int) < 5))
      have e := rho_found lf.ok h5 hf (.inl c)
      refine ite2 (fun z => absurd z (by decide)) (fun _ => ?_)
      refine ⟨iV f, rfl, ?_⟩
      rw [e]
      exact q _ sm
end
end K9

set_option Elab.async false
set_option linter.all false
set_option maxRecDepth 100000
namespace K9
open PySem PySem.Spec PyProof.Rows L2
/-- a tower -/
def TowAt (H : Hp) (a : Addr) (T : List Lt) : Prop := ∃ ts : List Addr, H a = some (.tup (ts.map V.ref)) ∧ Paired (fun t L => LotAt H t L) ts T
theorem TowAt.ts {H H' : Hp} {a : Addr} {T : List Lt} (h : TowAt H a T) (s : TSame H H') : TowAt H' a T :=
  let ⟨ts, h1, h2⟩ := h
  ⟨ts, s _ _ h1, Paired.mapP h2 fun _ _ q => q.ts s⟩
theorem TowAt.same {H H' : Hp} {a : Addr} {T : List Lt} (h : TowAt H a T) (s : Same H H') : TowAt H' a T := h.ts (.of s)
theorem knAt_app {es : List (Lt × Addr × Int)} {e : Lt × Addr × Int} {L : Lt} {n : Int} (h : knAt es L = some n) : knAt (es ++ [e]) L = some n := by
  unfold knAt at h ⊢
  obtain ⟨p, h1, h2⟩ := Option.map_eq_some_iff.mp h
  rw [List.find?_append, h1]
  exact congrArg some h2
theorem knAt_new {es : List (Lt × Addr × Int)} {a : Addr} {L : Lt} {n : Int} (h : knAt es L = none) : knAt (es ++ [(L, a, n)]) L = some n := by
  unfold knAt at h ⊢
  rw [Option.map_eq_none_iff] at h
  rw [List.find?_append, h]
  simp
section
variable {P : Program} {w : World} {K : PySem.W.Frag} {mg : Str → Option Value} {base : Heap}
def spReaches : Sp := fun vs H Q _ => ∃ (a : Addr) (T : List Lt), vs = [.ref a] ∧ TowAt H a T ∧ (∀ L ∈ T, LF L ∧ rho L ≤ 5) ∧ T.length ≤ 100 ∧ ∀ H' p, Same H H' → H' p = some (.lst ((T.map fun L => (rho L : Int)).map V.int)) → Q (.ref p) H'
theorem scReaches : FnScope ["tower", "known", "lot"] ["tower"] (defScope sReaches) := ⟨rfl, rfl, rfl, by decide +kernel, rfl, by decide +kernel, by decide +kernel⟩
theorem ok_reaches {f fS : Addr} {fd fdS : FuncData} (F : Fun K "reaches" "reaches" sReaches f fd) (CS : Cal P w K mg base "reach" 5 ["lot"] spReach fS fdS) : FnOk P w K mg base CX0 6 f fd ["tower"] spReaches := by
  refine F.ok scReaches (fun vs H Q E h => ?_) (fun cdv A outer s H vs Q E hr h => ?_)
  · obtain ⟨d, L, rfl, _⟩ := h
    rfl
  · obtain ⟨a, T, rfl, hT, hF, hlen, q⟩ := h
    refine ⟨_, pss_cons (ps_set (i := 1) scReaches.nd rfl (.inr rfl) pe_knNew)
      (pss_cons (ps_for PassesOwn.never rfl (pi_tup (pv 0)) (pg_name (i := 2) scReaches.nd rfl (.inl rfl))
        (pss_one (ps_if (pt_cmpR (op_knNotIn hr.units) (pv 2) (pv 1) rfl)
          (pss_one (ps_knPut hr.units (pv 1) (pv 2) (pe_call CS.ok hr (by rfl) CS.g CS.kp CS.b .nil pass0 (pa_cons (pv 2) pa_nil)) rfl)) pss_nil)))
      (pss_one (ps_ret (pe_lc (own := [("lot", 2)]) (g := gName 2) (tt := tYes) (te := tKnGet P w (tVar 1) (tVar 2)) rfl scReaches.nd (pi_tup (pv 0))
            (blkOk_by (own := [("lot", 2)]) (N := ["tower", "known", "lot"]) (sc := defScope sReaches) (by decide +kernel))
            (fun _ _ _ _ _ => pg_name (i := 2) scReaches.nd rfl (.inl rfl)) (fun _ _ _ _ _ => pts_nil) (fun _ _ _ _ _ => pe_knGet hr.units (pv 1) (pv 2) (fun _ _ => rfl)))))), ?_⟩
    obtain ⟨ts, ha, hts⟩ := hT
    have hl : ts.length = T.length := Paired.length hts
    refine fun k nk => ?_
    refine ⟨.ref a, rfl, a, rfl, ⟨_, .inl (.inl (same_upd nk _ _ ha))⟩, ?_⟩
    refine for_tup (xs := ts.map V.ref) (fun i σ H' => ∃ y2, σ = [some (.ref a), some (.ref k), y2] ∧ Same H H' ∧ ∃ es, H' k = some (KnO P w k es) ∧ es.length ≤ i ∧ (∀ e ∈ es, LotAt H' e.2.1 e.1) ∧ (∀ e ∈ es, e.2.2 = (rho e.1 : Int)) ∧ ∀ L ∈ T.take i, knAt es L = some (rho L : Int))
      ⟨none, rfl, same_upd nk, [], upd_same, Nat.le_refl _, by simp, by simp, by simp⟩ ?_ ?_ ?_
    · rintro i σ H' hi ⟨_, rfl, sm, _⟩
      exact .inl (.inl (sm _ _ ha))
    · rintro i x σ H' hx ⟨y2, rfl, sm, es, hk, hle, hall, hv, hkn⟩
      obtain ⟨t, ht, rfl⟩ := get_ref hx
      obtain ⟨L, hL, hLt⟩ := paired_get hts ht
      have hLt := hLt.same sm
      have hiT : i < T.length := (List.getElem?_eq_some_iff.mp hL).1
      refine ⟨.ref t, rfl, .ref k, rfl, t, k, L, es, rfl, rfl, hLt, hk, hall, _, rfl, ?_⟩
      refine ite2 (fun c => ?_) (fun c => ?_)
      · have c : knAt es L = none := by
          cases h : knAt es L with
          | none => rfl
          | some _ => rw [h] at c; cases c
        have hLm := List.mem_of_getElem? hL
        refine ⟨.ref t, rfl, t, L, rfl, hLt, (hF L hLm).1, (hF L hLm).2, fun H2 s2 => ?_⟩
        have hk2 := s2 _ _ hk
        refine ⟨.ref k, rfl, .ref t, rfl, t, k, L, es, (rho L : Int), rfl, rfl, rfl, hLt.same s2, hk2, fun e he => (hall e he).same s2, c, by omega, ?_⟩
        have tsm : TSame H2 (upd H2 k (KnO P w k (es ++ [(L, t, (rho L : Int))]))) := TSame.upd hk2 fun _ z => by
          unfold KnO at z
          cases z
        refine ⟨some (.ref t), rfl, Same.new (Same.trans sm s2) nk, _, upd_same, by simp; omega, fun e he => ?_, fun e he => ?_, fun M hM => ?_⟩
        · rcases List.mem_append.mp he with z | z
          · exact ((hall e z).same s2).ts tsm
          · have z : e = (L, t, (rho L : Int)) := by simpa using z
            subst z
            exact (hLt.same s2).ts tsm
        · rcases List.mem_append.mp he with z | z
          · exact hv e z
          · have z : e = (L, t, (rho L : Int)) := by simpa using z
            subst z
            rfl
        · rw [take_next hL] at hM
          rcases List.mem_append.mp hM with z | z
          · exact knAt_app (hkn M z)
          · have z : M = L := by simpa using z
            subst z
            exact knAt_new c
      · refine ⟨some (.ref t), rfl, sm, es, hk, by omega, hall, hv, fun M hM => ?_⟩
        rw [take_next hL] at hM
        rcases List.mem_append.mp hM with z | z
        · exact hkn M z
        · have z : M = L := by simpa using z
          subst z
          cases h : knAt es M with
          | none => rw [h] at c; exact absurd rfl c
          | some n =>
            unfold knAt at h
            obtain ⟨e, h1, h2⟩ := Option.map_eq_some_iff.mp h
            have h3 := hv e (List.mem_of_find?_eq_some h1)
            have h4 : e.1 = M := by simpa using List.find?_some h1
            rw [← h2, h3, h4]
    · rintro σ H' ⟨y2, rfl, sm, es, hk, hle, hall, hv, hkn⟩
      rw [List.length_map, hl, List.take_length] at hkn
      refine ⟨.ref a, rfl, a, rfl, ⟨_, .inl (.inl (sm _ _ ha))⟩, fun D nD => ?_⟩
      refine lc_tup (xs := ts.map V.ref) (fun i H2 => Same H' H2 ∧ H2 D = some (.lst (((T.take i).map fun L => (rho L : Int)).map V.int))) ⟨same_upd nD, upd_same⟩ ?_ ?_ ?_
      · rintro i H2 hi ⟨s2, _⟩
        exact .inl (.inl (s2 _ _ (sm _ _ ha)))
      · rintro i x H2 hx ⟨s2, hD⟩
        obtain ⟨t, ht, rfl⟩ := get_ref hx
        obtain ⟨L, hL, hLt⟩ := paired_get hts ht
        have hiT : i < T.length := (List.getElem?_eq_some_iff.mp hL).1
        refine ⟨rfl, yesI ⟨.ref k, rfl, .ref t, rfl, t, k, L, es, (rho L : Int), rfl, rfl, (hLt.same sm).same s2, s2 _ _ hk, fun e he => (hall e he).same s2, hkn L (List.mem_of_getElem? hL), _, hD, ?_, Same.new s2 nD, ?_⟩⟩
        · rw [List.length_map, List.length_map, List.length_take]
          exact sl_lt (by omega)
        · rw [upd_same, take_next hL, List.map_append, List.map_append]
          rfl
      · rintro H2 ⟨s2, hD⟩
        rw [List.length_map, hl, List.take_length] at hD
        exact q H2 D (Same.trans sm s2) hD
/-! ### reach_in -/
def spReachIn : Sp := fun vs H Q _ => ∃ (a : Addr) (T : List Lt), vs = [.ref a] ∧ TowAt H a T ∧ (∀ L ∈ T, LF L ∧ rho L ≤ 5) ∧ T.length ≤ 100 ∧ ∀ H', Same H H' → Q (.int (1 + (T.map fun L => (rho L : Int) - 1).sum)) H'
theorem scReachIn : FnScope ["tower", "one"] ["tower"] (defScope sReachIn) := ⟨rfl, rfl, rfl, by decide +kernel, rfl, by decide +kernel, by decide +kernel⟩
theorem ok_reachIn {f fS : Addr} {fd fdS : FuncData} (F : Fun K "reach_in" "reach_in" sReachIn f fd) (CS : Cal P w K mg base "reaches" 6 ["tower"] spReaches fS fdS) (ms : mg "sum" = none) : FnOk P w K mg base CX0 7 f fd ["tower"] spReachIn := by
  refine F.ok scReachIn (fun vs H Q E h => ?_) (fun cdv A outer s H vs Q E hr h => ?_)
  · obtain ⟨d, L, rfl, _⟩ := h
    rfl
  · obtain ⟨a, T, rfl, hT, hF, hlen, q⟩ := h
    refine ⟨_, pss_one (ps_ret (pe_op op_add pe_int (pe_callB (cr_sum rfl) (by rfl) ms rfl (pa_cons (pe_lc (own := [("one", 1)]) (g := gName 1) (tt := tYes) (te := tOp (rI0 fun i j => .int (i - j)) (tVar 1) (tC (.int 1))) rfl scReachIn.nd (pi_list (pe_call CS.ok hr (by rfl) CS.g CS.kp CS.b .nil pass0 (pa_cons (pv 0) pa_nil)))
            (blkOk_by (own := [("one", 1)]) (N := ["tower", "one"]) (sc := defScope sReachIn) (by decide +kernel))
            (fun _ _ _ _ _ => pg_name (i := 1) scReachIn.nd rfl (.inl rfl)) (fun _ _ _ _ _ => pts_nil) (fun _ _ _ _ _ => pe_op op_sub (pv 1) pe_int)) pa_nil)))), ?_⟩
    refine ⟨.ref a, rfl, a, T, rfl, hT, hF, hlen, fun H1 p s1 hp => ?_⟩
    refine ⟨p, rfl, ⟨_, .inl (.inl hp)⟩, fun D nD => ?_⟩
    refine lc_list (xs := (T.map fun L => (rho L : Int)).map V.int) (fun i H2 => Same H1 H2 ∧ H2 D = some (.lst (((T.take i).map fun L => (rho L : Int) - 1).map V.int))) ⟨same_upd nD, upd_same⟩ ?_ ?_ ?_
    · rintro i H2 hi ⟨s2, _⟩
      exact .inl (.inl (s2 _ _ hp))
    · rintro i x H2 hx ⟨s2, hD⟩
      rw [List.getElem?_map, List.getElem?_map] at hx
      obtain ⟨n, hn, rfl⟩ := Option.map_eq_some_iff.mp hx
      obtain ⟨L, hL, rfl⟩ := Option.map_eq_some_iff.mp hn
      have hiT : i < T.length := (List.getElem?_eq_some_iff.mp hL).1
      refine ⟨rfl, yesI ⟨_, rfl, _, 1, rfl, rfl, _, hD, ?_, Same.new s2 nD, ?_⟩⟩
      · rw [List.length_map, List.length_map, List.length_take]
        exact sl_lt (by omega)
      · rw [upd_same, take_next hL, List.map_append, List.map_append]
        rfl
    · rintro H2 ⟨s2, hD⟩
      rw [List.length_map, List.length_map, List.take_length] at hD
      refine ⟨D, _, rfl, .inl (.inl hD), 1, _, rfl, rfl, q H2 (Same.trans s1 s2)⟩
end
end K9

set_option Elab.async false
set_option linter.all false
set_option maxRecDepth 100000
namespace K9
open PySem PySem.Spec PyProof.Rows L2
section
variable {P : Program} {w : World} {K : PySem.W.Frag} {mg : Str → Option Value} {base : Heap}
theorem RowsAt.app {H : Hp} {ts us : List Addr} {rs qs : List (List Nat)} (h : RowsAt H ts rs) (h2 : RowsAt H us qs) : RowsAt H (ts ++ us) (rs ++ qs) := by
  unfold RowsAt at h h2 ⊢
  induction h with
  | nil => exact h2
  | cons a b ih => exact .cons a ih
/-- all([m in ups[one] for one in row]) -/
theorem rd_all {iu ir im io : Nat} {σ : L2.St} {H : Hp} {Q : Bool → Hp → Prop} {u t : Addr} {L : Lt} {r : List Nat} {m : Nat} (hu : σ[iu]? = some (some (.ref u))) (hr : σ[ir]? = some (some (.ref t))) (hm : σ[im]? = some (some (iV m)))
    (ho : io < σ.length) (n1 : iu ≠ io) (n2 : im ≠ io) (hU : UpsAt H u L) (ht : H t = some (.tup (rV r))) (hb : ∀ y ∈ r, y < L.1) (hz : r.length ≤ 1000) (q : ∀ H', Same H H' → Q (r.all (lat L m)) H') :
    tB (tCB (rAll K) (tCons (tLc (iTup K (tVar ir)) (gName io) tYes (tDIn (tVar im) (tOp (rIxL K) (tVar iu) (tVar io))) [io]) tNil)) σ H Q := by
  refine ⟨.ref t, hr, t, rfl, ⟨_, .inl (.inl ht)⟩, fun D nD => ?_⟩
  refine lc_tup (xs := rV r) (fun n H' => Same H H' ∧ H' D = some (.lst (((r.take n).map (lat L m)).map V.bl))) ⟨same_upd nD, upd_same⟩ ?_ ?_ ?_
  · rintro n H' hn ⟨sm, _⟩
    exact .inl (.inl (sm _ _ ht))
  · rintro n x H' hx ⟨sm, hD⟩
    obtain ⟨y, hy, rfl⟩ := get_iV hx
    obtain ⟨us, hul, hua, hud⟩ := hU
    have hyL := hb y (List.mem_of_getElem? hy)
    have hyu : us[y]? = some (us[y]'(by rw [hul]; exact hyL)) := List.getElem?_eq_getElem _
    generalize us[y]'(by rw [hul]; exact hyL) = uu at hyu
    obtain ⟨kvu, hku, hlat⟩ := hud y uu hyu
    have e1 : ∀ j, j ≠ io → ((wipe σ [io]).set io (some (iV y)))[j]? = σ[j]? := fun j hj => by
      unfold wipe wipe
      rw [List.getElem?_set_ne hj.symm, List.getElem?_set_ne hj.symm]
    refine ⟨?_, yesI ⟨iV m, ?_, .ref u, ?_, iV y, ?_, u, _, y, .ref uu, rfl, rfl, .inl (.inl (sm _ _ hua)), atI_nat (by rw [List.getElem?_map, hyu]; rfl), uu, _, rfl, DGet.k (k := kN m) (sm _ _ hku), _, hD, ?_, Same.new sm nD, ?_⟩⟩
    · show (((σ.set io none).set io (some (iV y))).set io none) = σ.set io none
      rw [List.set_set, List.set_set]
    · exact (e1 im n2).trans hm
    · exact (e1 iu n1).trans hu
    · show ((wipe σ [io]).set io (some (iV y)))[io]? = some (some (iV y))
      rw [List.getElem?_set_self (by rw [wipe_length]; exact ho)]
    · rw [List.length_map, List.length_map, List.length_take]
      exact sl_lt (by omega)
    · rw [upd_same, hlat m, take_next hy, List.map_append, List.map_append]
      rfl
  · rintro H' ⟨sm, hD⟩
    rw [rV_len, List.take_length] at hD
    refine ⟨D, _, rfl, .inl (.inl hD), _, rfl, ?_⟩
    rw [List.all_map]
    exact q H' sm
/-! ### the law's rows -/
def spRows : Sp := fun vs H Q _ => ∃ (u : Addr) (L : Lt) (k : Nat), vs = [.ref u, iV k] ∧ UpsAt H u L ∧ LF L ∧ k ≤ 4 ∧ ∀ H' p ts, Same H H' → H' p = some (.lst (ts.map V.ref)) → RowsAt H' ts (rowsL L k) → Q (.ref p) H'
theorem scRows : FnScope ["_law_ups_here", "_law_size", "_law_found", "_law_turn", "_law_longer", "_law_row", "_law_mark", "_law_one"] ["_law_ups_here", "_law_size"] (defScope sRows) := ⟨rfl, rfl, rfl, by decide +kernel, rfl, by decide +kernel, by decide +kernel⟩
theorem ok_rows {f : Addr} {fd : FuncData} {k : Nat} (F : Fun K "_law_rows" "_law_rows" sRows f fd) (mr : mg "range" = none) (ml : mg "len" = none) (ma : mg "all" = none) : FnOk P w K mg base CX0 (k + 1) f fd ["_law_ups_here", "_law_size"] spRows := by
  refine F.ok scRows (fun vs H Q E h => ?_) (fun cdv A outer s H vs Q E hr h => ?_)
  · obtain ⟨d, L, k, rfl, _⟩ := h
    rfl
  · obtain ⟨u, L, k, rfl, hU, lf, hk, q⟩ := h
    refine ⟨_, pss_cons (ps_set (i := 2) scRows.nd rfl (.inl rfl) (pe_lst (pa_cons (pe_tup pa_nil) pa_nil)))
      (pss_cons (ps_for PassesOwn.never rfl (pi_range1 (by rfl) mr (pa_cons (pv 1) pa_nil)) (pg_name (i := 3) scRows.nd rfl (.inl rfl))
        (pss_cons (ps_set (i := 4) scRows.nd rfl (.inl rfl) (pe_lst pa_nil))
        (pss_cons (ps_for PassesOwn.never rfl (pi_list (pv 2)) (pg_name (i := 5) scRows.nd rfl (.inr rfl))
          (pss_one (ps_expr (pe_bm PySem.F.plainAttrs_list PySem.F.slot_list_extend PySem.F.type_list_extend mt_extend (pv 4) (pa_cons
            (pe_lc (own := [("_law_mark", 6)]) (g := gName 6) (te := tOp (rCatA K) (tVar 5) (tTup (tCons (tVar 6) tNil)))
              (tt := tB (tCB (rAll K) (tCons (tLc (iTup K (tVar 5)) (gName 7) tYes (tDIn (tVar 6) (tOp (rIxL K) (tVar 0) (tVar 7))) [7]) tNil))) rfl scRows.nd (pi_range1 (by rfl) mr (pa_cons (pe_callB call_len_seq (by rfl) ml PySem.boot_len (pa_cons (pv 0) pa_nil)) pa_nil))
              (blkOk_by (own := [("_law_mark", 6)]) (N := ["_law_ups_here", "_law_size", "_law_found", "_law_turn", "_law_longer", "_law_row", "_law_mark", "_law_one"]) (sc := defScope sRows) (by decide +kernel))
              (fun _ _ _ _ _ => pg_name (i := 6) scRows.nd rfl (.inr rfl))
              (fun _ _ _ _ _ => pts_one (pt_val (pe_callB (cr_all rfl) (by rfl) ma rfl (pa_cons (pe_lc (own := [("_law_one", 7)]) (g := gName 7) (tt := tYes) (te := tDIn (tVar 6) (tOp (rIxL K) (tVar 0) (tVar 7))) rfl scRows.nd (pi_tup (pv 5))
                (blkOk_by (own := [("_law_one", 7)]) (N := ["_law_ups_here", "_law_size", "_law_found", "_law_turn", "_law_longer", "_law_row", "_law_mark", "_law_one"]) (sc := relS _ (defScope sRows)) (by decide +kernel))
                (fun _ _ _ _ _ => pg_name (i := 7) scRows.nd rfl (.inl rfl)) (fun _ _ _ _ _ => pts_nil) (fun _ _ _ _ _ => pe_cmp (pc_din (hu_of hr) (pv 6) (pe_ix ix_list (pv 0) (pv 7) (fun _ _ => rfl))))) pa_nil))))
              (fun _ _ _ _ _ => pe_op op_catA (pv 5) (pe_tup (pa_cons (pv 6) pa_nil)))) pa_nil)))))
        (pss_one (ps_set (i := 2) scRows.nd rfl (.inl rfl) (pv 4))))))
      (pss_one (ps_ret (pv 2)))), ?_⟩
    obtain ⟨us, hul, hua, hud⟩ := id hU
    have hfew := lf.few
    -- found = [()]
    refine ⟨Nat.zero_le _, fun t0 n0 => ⟨by show 1 ≤ sizeLine; decide, fun p0 np0 => ?_⟩⟩
    have sA : Same H (upd (upd H t0 (.tup [])) p0 (.lst [.ref t0])) := Same.trans (same_upd n0) (same_upd np0)
    have ht0 : (upd (upd H t0 (.tup [])) p0 (.lst [.ref t0])) t0 = some (.tup []) := same_upd np0 _ _ upd_same
    have hp0 : (upd (upd H t0 (.tup [])) p0 (.lst [.ref t0])) p0 = some (.lst ([t0].map V.ref)) := upd_same
    generalize upd (upd H t0 (.tup [])) p0 (.lst [.ref t0]) = H0 at sA ht0 hp0
    -- for turn in range(size)
    refine ⟨iV k, rfl, (k : Int), rfl, by omega, by omega, ?_⟩
    refine for_range (lo := 0) (n := k) (fun i σ H' => ∃ y3 y4 y5 fA ts, σ = [some (.ref u), some (iV k), some (.ref fA), y3, y4, y5, none, none] ∧ Same H H' ∧ H' fA = some (.lst (ts.map V.ref)) ∧ RowsAt H' ts (rowsL L i))
      ⟨none, none, none, p0, [t0], rfl, sA, hp0, .cons ht0 .nil⟩ ?_ ?_
    · rintro i σ H' hi ⟨y3, y4, y5, fA, ts, rfl, sm, hfA, hts⟩
      refine ⟨Nat.zero_le _, fun lA nl => ?_⟩
      have sB : Same H' (upd H' lA (.lst [])) := same_upd nl
      have nl0 := Same.free sm nl
      refine ⟨.ref fA, rfl, fA, rfl, ⟨_, .inl (.inl (sB _ _ hfA))⟩, ?_⟩
      have hneA : fA ≠ lA := ne_of_none hfA nl
      refine for_list (xs := ts.map V.ref) (fun j σ H2 => ∃ y5, σ = [some (.ref u), some (iV k), some (.ref fA), some (.int (0 + (i : Int))), some (.ref lA), y5, none, none] ∧ Same H H2 ∧ H2 fA = some (.lst (ts.map V.ref)) ∧ RowsAt H2 ts (rowsL L i) ∧
        ∃ tl : List Addr, H2 lA = some (.lst (tl.map V.ref)) ∧ RowsAt H2 tl (((rowsL L i).take j).flatMap (extL L))) ⟨y5, rfl, Same.trans sm sB, sB _ _ hfA, hts.ts (.of sB), [], upd_same, .nil⟩ ?_ ?_ ?_
      · rintro j σ H2 hj ⟨_, rfl, _, e, _⟩
        exact .inl (.inl e)
      · rintro j x σ H2 hx ⟨y5, rfl, sm2, hfA2, hts2, tl, hlA, htl⟩
        obtain ⟨t, ht, rfl⟩ := get_ref hx
        obtain ⟨r, hr2, ht'⟩ := hts2.get ht
        have hrr := mem_rows.mp (List.mem_of_getElem? hr2)
        refine ⟨.ref lA, rfl, .inl ⟨rfl, _, .inl (.inl hlA)⟩, .ref u, rfl, u, _, rfl, .inl (.inl (.inl (sm2 _ _ hua))), _, rfl, by rw [List.length_map, hul]; omega, by rw [List.length_map, hul]; omega, fun D nD => ?_⟩
        refine lc_range (lo := 0) (n := (us.map V.ref).length) (fun m H' => Same H2 H' ∧ ∃ td : List Addr, H' D = some (.lst (td.map V.ref)) ∧ RowsAt H' td (((List.range m).filter fun x => r.all fun y => lat L x y).map fun x => r ++ [x])) ⟨same_upd nD, [], upd_same, .nil⟩ ?_ ?_
        · rintro m H3 hm ⟨sm3, td, hD, htd⟩
          rw [List.length_map, hul] at hm
          have ei : (0 : Int) + (m : Int) = (m : Int) := by omega
          rw [ei]
          refine ⟨rfl, ?_⟩
          refine rd_all (iu := 0) (ir := 5) (im := 6) (io := 7) (L := L) (r := r) (m := m) rfl rfl rfl (by show 7 < 8; decide) (by decide) (by decide) ((hU.same sm2).same sm3) (sm3 _ _ ht') (fun y hy => hrr.1.1 y hy) (by omega) fun H4 s4 => ?_
          rw [List.range_succ, List.filter_append, List.map_append]
          refine ite2 (fun c => ?_) (fun c => ?_)
          · have e1 : [m].filter (fun x => r.all fun y => lat L x y) = [m] := by
              rw [List.filter_cons, if_pos (show (r.all fun y => lat L m y) = true from c), List.filter_nil]
            rw [e1]
            refine ⟨.ref t, rfl, iV m, rfl, by show 1 ≤ sizeLine; decide, fun t5 n5 => ?_⟩
            have s5 : Same H4 (upd H4 t5 (.tup [iV m])) := same_upd n5
            refine catA (s5 _ _ (s4 _ _ (sm3 _ _ ht'))) upd_same (by rw [rV_len, hrr.2]; show i + 1 ≤ sizeLine; exact sl_le (by omega)) fun H6 p6 s6 e6 => ?_
            have s36 : Same H3 H6 := Same.trans s4 (Same.trans s5 s6)
            have hD6 := s36 _ _ hD
            refine ⟨_, hD6, ?_, Same.new (Same.trans sm3 s36) nD, td ++ [p6], ?_, ?_⟩
            · have h1 := List.length_filter_le (fun x => r.all fun y => lat L x y) (List.range m)
              rw [List.length_map, htd.len, List.length_map]
              rw [List.length_range] at h1
              exact sl_lt (by omega)
            · rw [upd_same, List.map_append]; rfl
            · refine ((htd.ts (.of s36)).snoc ?_).ts (TSame.upd hD6 fun _ z => nomatch z)
              rw [e6, rV_app]
              rfl
          · have e1 : [m].filter (fun x => r.all fun y => lat L x y) = [] := by
              rw [List.filter_cons, if_neg (show ¬ (r.all fun y => lat L m y) = true from c), List.filter_nil]
            rw [e1, List.map_nil, List.append_nil]
            exact ⟨Same.trans sm3 s4, td, s4 _ _ hD, htd.ts (.of s4)⟩
        · rintro H3 ⟨sm3, td, hD, htd⟩
          rw [List.length_map, hul] at htd
          have htd : RowsAt H3 td (extL L r) := htd
          have hlA3 := sm3 _ _ hlA
          have hxl : (extL L r).length ≤ 9 := by
            unfold extL
            rw [List.length_map]
            exact Nat.le_trans (above_len L r) hfew
          have hpl := pre_len (f := extL L) (j := 0) hr2
          rw [List.take_zero, List.append_nil] at hpl
          have hrl : ((rowsL L i).flatMap (extL L)).length ≤ 6561 := rows_few lf.few (k := i + 1) (by omega)
          refine ⟨lA, D, _, _, rfl, rfl, hlA3, hD, by rw [List.length_map, List.length_map, htl.len, htd.len]; exact sl_le (by omega), ?_⟩
          have tsm : TSame H3 (upd H3 lA (.lst (tl.map V.ref ++ td.map V.ref))) := TSame.upd hlA3 fun _ z => nomatch z
          refine ⟨some (.ref t), rfl, Same.new (Same.trans sm2 sm3) nl0, ?_, (hts2.ts (.of sm3)).ts tsm, tl ++ td, ?_, ?_⟩
          · rw [upd_ne hneA]; exact sm3 _ _ hfA2
          · rw [upd_same, List.map_append]
          · rw [take_next hr2, List.flatMap_append, List.flatMap_cons, List.flatMap_nil, List.append_nil]
            exact ((htl.ts (.of sm3)).ts tsm).app (htd.ts tsm)
      · rintro σ H2 ⟨y5, rfl, sm2, hfA2, hts2, tl, hlA, htl⟩
        rw [List.length_map, hts2.len, List.take_length] at htl
        exact ⟨.ref lA, rfl, _, _, _, lA, tl, rfl, sm2, hlA, htl⟩
    · rintro σ H' ⟨y3, y4, y5, fA, ts, rfl, sm, hfA, hts⟩
      exact ⟨.ref fA, rfl, q H' fA ts sm hfA hts⟩
end
end K9

set_option Elab.async false
set_option linter.all false
set_option maxRecDepth 100000
namespace K9
open PySem PySem.Spec PyProof.Rows L2
section
variable {P : Program} {w : World} {K : PySem.W.Frag} {mg : Str → Option Value} {base : Heap}
/-! ### does a row stay -/
def RKeys (H : Hp) (d : Addr) (G : List (List Nat)) : Prop := ∃ kvs : List (List Key × V), Rd H d (.dT kvs) ∧ Paired (fun (kv : List Key × V) (r : List Nat) => kv.1 = rk r ∧ True) kvs G
theorem RKeys.same {H H' : Hp} {d : Addr} {G : List (List Nat)} (h : RKeys H d G) (s : Same H H') : RKeys H' d G :=
  let ⟨kvs, h1, h2⟩ := h
  ⟨kvs, h1.elim (fun e => .inl (s _ _ e)) fun ⟨o, e⟩ => .inr ⟨o, s _ _ e⟩, h2⟩
def spStays : Sp := fun vs H Q _ => ∃ (u t d : Addr) (L : Lt) (k : Nat) (r : List Nat) (G : List (List Nat)), vs = [.ref u, .ref t, .ref d] ∧ UpsAt H u L ∧ H t = some (.tup (rV r)) ∧ RKeys H d G ∧ r ∈ rowsL L k ∧ LF L ∧ k ≤ 4 ∧
  ∀ H' b, Same H H' → (b = true ↔ Stays L (fun s => s ∈ G) r) → Q (.bl b) H'
theorem scStays : FnScope ["_law_ups_here", "_law_row", "_law_there", "_law_mark", "_law_one", "_law_at"] ["_law_ups_here", "_law_row", "_law_there"] (defScope sStays) := ⟨rfl, rfl, rfl, by decide +kernel, rfl, by decide +kernel, by decide +kernel⟩
theorem ok_stays {f : Addr} {fd : FuncData} {k : Nat} (F : Fun K "_law_stays" "_law_stays" sStays f fd) (mr : mg "range" = none) (ml : mg "len" = none) (ma : mg "all" = none) : FnOk P w K mg base CX0 (k + 1) f fd ["_law_ups_here", "_law_row", "_law_there"] spStays := by
  refine F.ok scStays (fun vs H Q E h => ?_) (fun cdv A outer s H vs Q E hr h => ?_)
  · obtain ⟨u, t, d, L, k, r, G, rfl, _⟩ := h
    rfl
  · obtain ⟨u, t, d, L, k, r, G, rfl, hU, ht, hG, hrr, lf, hk, q⟩ := h
    refine ⟨_, pss_cons (ps_for PassesOwn.never rfl (pi_range1 (by rfl) mr (pa_cons (pe_callB call_len_seq (by rfl) ml PySem.boot_len (pa_cons (pv 0) pa_nil)) pa_nil)) (pg_name (i := 3) scStays.nd rfl (.inr rfl))
        (pss_one (ps_if (pt_val (pe_callB (cr_all rfl) (by rfl) ma rfl (pa_cons (pe_lc (own := [("_law_one", 4)]) (g := gName 4) (tt := tYes) (te := tDIn (tVar 3) (tOp (rIxL K) (tVar 0) (tVar 4))) rfl scStays.nd (pi_tup (pv 1))
                (blkOk_by (own := [("_law_one", 4)]) (N := ["_law_ups_here", "_law_row", "_law_there", "_law_mark", "_law_one", "_law_at"]) (sc := defScope sStays) (by decide +kernel))
                (fun _ _ _ _ _ => pg_name (i := 4) scStays.nd rfl (.inl rfl)) (fun _ _ _ _ _ => pts_nil) (fun _ _ _ _ _ => pe_cmp (pc_din (hu_of hr) (pv 3) (pe_ix ix_list (pv 0) (pv 4) (fun _ _ => rfl))))) pa_nil)))
          (pss_one (ps_if (pt_val (pe_callB (cr_all rfl) (by rfl) ma rfl (pa_cons (pe_lc (own := [("_law_at", 5)]) (g := gName 5) (tt := tYes)
                (te := tDIn (tOp (rCatA K) (tOp (rCatA K) (tSl (rSlA K) (tVar 1) tNoPart (tPart (tVar 5))) (tSl (rSlA K) (tVar 1) (tPart (tOp (rI0 fun i j => .int (i + j)) (tVar 5) (tC (.int 1)))) tNoPart)) (tTup (tCons (tVar 3) tNil))) (tVar 2)) rfl scStays.nd
                (pi_range1 (by rfl) mr (pa_cons (pe_callB call_len_seq (by rfl) ml PySem.boot_len (pa_cons (pv 1) pa_nil)) pa_nil))
                (blkOk_by (own := [("_law_at", 5)]) (N := ["_law_ups_here", "_law_row", "_law_there", "_law_mark", "_law_one", "_law_at"]) (sc := defScope sStays) (by decide +kernel))
                (fun _ _ _ _ _ => pg_name (i := 5) scStays.nd rfl (.inl rfl)) (fun _ _ _ _ _ => pts_nil)
                (fun _ _ _ _ _ => pe_cmp (pc_din (hu_of hr) (pe_op op_catA (pe_op op_catA (pe_slice sl_tupA (pv 1) po_none (po_some (pv 5))) (pe_slice sl_tupA (pv 1) (po_some (pe_op op_add (pv 5) pe_int)) po_none)) (pe_tup (pa_cons (pv 3) pa_nil))) (pv 2)))) pa_nil)))
            (pss_one (ps_ret pe_bl)) pss_nil)) pss_nil)))
      (pss_one (ps_ret pe_bl)), ?_⟩
    obtain ⟨us, hul, hua, hud⟩ := id hU
    have hfew := lf.few
    have hrm := mem_rows.mp hrr
    refine ⟨.ref u, rfl, u, _, rfl, .inl (.inl (.inl hua)), _, rfl, by rw [List.length_map, hul]; omega, by rw [List.length_map, hul]; omega, ?_⟩
    refine for_range (lo := 0) (n := (us.map V.ref).length) (fun i σ H' => ∃ y3, σ = [some (.ref u), some (.ref t), some (.ref d), y3, none, none] ∧ Same H H' ∧ ∀ x < i, ¬ (x ∈ aboveL L r ∧ ∀ s ∈ leav r x, s ∈ G)) ⟨none, rfl, Same.refl _, by simp⟩ ?_ ?_
    · rintro i σ H' hi ⟨y3, rfl, sm, hno⟩
      rw [List.length_map, hul] at hi
      have ei : (0 : Int) + (i : Int) = (i : Int) := by omega
      rw [ei]
      have next : ¬ (i ∈ aboveL L r ∧ ∀ s ∈ leav r i, s ∈ G) → ∀ x < i + 1, ¬ (x ∈ aboveL L r ∧ ∀ s ∈ leav r x, s ∈ G) := fun hn x hx => by
        rcases Nat.lt_succ_iff_lt_or_eq.mp hx with z | z
        · exact hno x z
        · rw [z]; exact hn
      refine rd_all (iu := 0) (ir := 1) (im := 3) (io := 4) (L := L) (r := r) (m := i) rfl rfl rfl (by show 4 < 6; decide) (by decide) (by decide) (hU.same sm) (sm _ _ ht) (fun y hy => hrm.1.1 y hy) (by omega) fun H1 s1 => ?_
      have hiA : (r.all (lat L i)) = true ↔ i ∈ aboveL L r := by
        unfold aboveL
        rw [List.mem_filter, List.mem_range]
        exact ⟨fun z => ⟨hi, z⟩, fun z => z.2⟩
      refine ite2 (fun c => ?_) (fun c => ?_)
      · have ht1 := s1 _ _ (sm _ _ ht)
        refine ⟨.ref t, rfl, t, _, rfl, .inr (.inl (.inl ht1)), _, rfl, by rw [rV_len]; omega, by rw [rV_len]; omega, fun D nD => ?_⟩
        refine lc_range (lo := 0) (n := (rV r).length) (fun j H' => Same H1 H' ∧ H' D = some (.lst ((((leav r i).take j).map fun s => decide (s ∈ G)).map V.bl))) ⟨same_upd nD, upd_same⟩ ?_ ?_
        · rintro j H2 hj ⟨s2, hD⟩
          rw [rV_len] at hj
          have ej : (0 : Int) + (j : Int) = (j : Int) := by omega
          rw [ej]
          have ht2 := s2 _ _ ht1
          refine ⟨rfl, yesI ⟨.ref t, rfl, .int (j : Int), rfl, _, rfl, slA ht2 fun H3 p3 s3 e3 => ?_⟩⟩
          refine ⟨.ref t, rfl, .int (j : Int), rfl, _, _, rfl, rfl, _, rfl, ?_⟩
          unfold tNoPart
          dsimp only
          refine slA (s3 _ _ ht2) fun H4 p4 s4 e4 => ?_
          rw [cut_to] at e3
          rw [show (j : Int) + 1 = ((j + 1 : Nat) : Int) by omega, cut_from] at e4
          have hlen : (rV (r.take j)).length + (rV (r.drop (j + 1))).length ≤ 1000 := by rw [rV_len, rV_len, List.length_take, List.length_drop]; omega
          refine catA (s4 _ _ e3) e4 (sl_le (by omega)) fun H5 p5 s5 e5 => ?_
          refine ⟨iV i, rfl, by show 1 ≤ sizeLine; decide, fun p6 n6 => ?_⟩
          have s6 : Same H5 (upd H5 p6 (.tup [iV i])) := same_upd n6
          refine catA (s6 _ _ e5) upd_same (by rw [List.length_append]; exact sl_le (by simp; omega)) fun H7 p7 s7 e7 => ?_
          have s27 : Same H2 H7 := Same.trans s3 (Same.trans s4 (Same.trans s5 (Same.trans s6 s7)))
          obtain ⟨kvs, hdr, hkp⟩ := (((hG.same sm).same s1).same s2).same s27
          refine ⟨.ref d, rfl, d, _, rfl, .inr ⟨kvs, rk (r.take j ++ r.drop (j + 1) ++ [i]), p7, hdr, rfl, ?_, rfl⟩, _, s27 _ _ hD, ?_, Same.new (Same.trans s2 s27) nD, ?_⟩
          · rw [e7, rk_kV, rV_app, rV_app]
            rfl
          · rw [List.length_map, List.length_map, List.length_take, leav_len]
            exact sl_lt (by omega)
          · rw [upd_same, keys_val hkp, take_next (leav_get hj), List.map_append, List.map_append]
            rfl
        · rintro H2 ⟨s2, hD⟩
          rw [rV_len, ← leav_len r i, List.take_length] at hD
          refine ⟨D, _, rfl, .inl (.inl hD), _, rfl, ?_⟩
          rw [List.all_map]
          refine ite2 (fun c2 => ?_) (fun c2 => ?_)
          · refine q H2 true (Same.trans sm (Same.trans s1 s2)) ⟨fun _ => ⟨i, hiA.mp c, fun s hs => ?_⟩, fun _ => rfl⟩
            have := List.all_eq_true.mp c2 s hs
            simpa using this
          · refine ⟨_, rfl, Same.trans sm (Same.trans s1 s2), next fun z => c2 (List.all_eq_true.mpr fun s hs => ?_)⟩
            simpa using z.2 s hs
      · exact ⟨_, rfl, Same.trans sm s1, next fun z => c (hiA.mpr z.1)⟩
    · rintro σ H' ⟨y3, rfl, sm, hno⟩
      rw [List.length_map, hul] at hno
      refine q H' false sm ⟨fun z => (nomatch z), fun ⟨x, hx, hs⟩ => ?_⟩
      exact absurd ⟨hx, hs⟩ (hno x (mem_above.mp hx).1)
end
end K9

set_option Elab.async false
set_option linter.all false
set_option maxRecDepth 100000
namespace K9
open PySem PySem.Spec PyProof.Rows L2
theorem gN_i {i : Nat} {x : V} {σ : L2.St} {H : Hp} {k : L2.St → Hp → Prop} (h : k (σ.set i (some x)) H) : gName i x σ H k := h
theorem sq_i {t u : TS} {D : Ends} {σ : L2.St} {H : Hp} (h : t { D with nx := u D } σ H) : tSeq t u D σ H := h
theorem as_i {te : TE} {g : TG} {D : Ends} {σ : L2.St} {H : Hp} (h : te σ H fun x H1 => g x σ H1 D.nx) : tAsg te g D σ H := h
theorem tp_i {t : TA} {σ : L2.St} {H : Hp} {Q : VK} (h : t σ H fun xs H1 => xs.length ≤ sizeLine ∧ ∀ p, H1 p = none → Q (.ref p) (upd H1 p (.tup xs))) : tTup t σ H Q := h
theorem tc_i {te : TE} {t : TA} {σ : L2.St} {H : Hp} {Q : List V → Hp → Prop} (h : te σ H fun x H1 => t σ H1 fun xs H2 => Q (x :: xs) H2) : tCons te t σ H Q := h
theorem rows_es {H : Hp} {ps ts : List Addr} {rs : List (List Nat)} (h : RowsAt H ts rs) (hp : Paired (fun p t => H p = some (.tup [.ref t, .bl true])) ps ts) :
    ∃ es : List (Addr × Addr × List Key), es.map (fun e => V.ref e.1) = ps.map V.ref ∧ es.map (fun e => e.2.2) = rs.map rk ∧ ∀ e ∈ es, H e.1 = some (.tup [.ref e.2.1, .bl true]) ∧ H e.2.1 = some (.tup (e.2.2.map kV)) := by
  unfold RowsAt at h
  induction hp generalizing rs with
  | nil =>
    cases h
    exact ⟨[], rfl, rfl, by simp⟩
  | @cons p t ps ts h1 h2 ih =>
    cases h with
    | @cons _ r _ rs g1 g2 =>
      obtain ⟨es, e1, e2, e3⟩ := ih g2
      refine ⟨(p, t, rk r) :: es, by rw [List.map_cons, e1]; rfl, by rw [List.map_cons, e2]; rfl, fun e he => ?_⟩
      rcases List.mem_cons.mp he with z | z
      · subst z
        exact ⟨h1, by rw [rk_kV]; exact g1⟩
      · exact e3 e z
theorem es_keys {es : List (Addr × Addr × List Key)} {rs : List (List Nat)} (h : es.map (fun e => e.2.2) = rs.map rk) : Paired (fun (kv : List Key × V) (r : List Nat) => kv.1 = rk r ∧ True) (es.map fun e => (e.2.2, V.bl true)) rs := by
  induction es generalizing rs with
  | nil =>
    cases rs with
    | nil => exact .nil
    | cons r rs => cases h
  | cons e es ih =>
    cases rs with
    | nil => cases h
    | cons r rs =>
      rw [List.map_cons, List.map_cons] at h
      obtain ⟨h1, h2⟩ := List.cons.inj h
      exact .cons ⟨h1, trivial⟩ (ih h2)
theorem rk_nodup {rs : List (List Nat)} (h : rs.Nodup) : (rs.map rk).Nodup := List.pairwise_map.mpr (h.imp fun {a b} n z => n (rk_inj z))
section
variable {P : Program} {w : World} {K : PySem.W.Frag} {mg : Str → Option Value} {base : Heap}
/-- dict([(row, True) for row in rows]) over a list -/
theorem rd_dict {io : Nat} {σ : L2.St} {H0 : Hp} {Q : VK} {rs : List (List Nat)} {wl : TI} (hw : ∀ R : It → Hp → Prop, (∀ H l (ts : List Addr), Same H0 H → H l = some (.lst (ts.map V.ref)) → RowsAt H ts rs → R (Itl K l) H) → wl σ H0 R) (ho : io < σ.length)
    (hn : rs.Nodup) (hz : rs.length ≤ 10000) (q : ∀ H' p, Same H0 H' → KeysAt H' p rs → Q (.ref p) H') :
    tCB (fun xs H Q => ∃ (a : Addr) (es : List (Addr × Addr × List Key)), xs = [.ref a] ∧ SqL K H a (es.map fun e => V.ref e.1) ∧
      (∀ e ∈ es, H e.1 = some (.tup [.ref e.2.1, .bl true]) ∧ H e.2.1 = some (.tup (e.2.2.map kV))) ∧ (es.map fun e => e.2.2).Nodup ∧ ∀ p, H p = none → Q (.ref p) (upd H p (.dT (es.map fun e => (e.2.2, V.bl true)))))
      (tCons (tLc wl (gName io) tYes (tTup (tCons (tVar io) (tCons (tC (.bl true)) tNil))) [io]) tNil) σ H0 Q := by
  refine hw _ fun H l ts s0 hl ht D nD => ?_
  refine lc_list (xs := ts.map V.ref) (fun n H' => Same H H' ∧ ∃ ps : List Addr, H' D = some (.lst (ps.map V.ref)) ∧ Paired (fun p t => H' p = some (.tup [.ref t, .bl true])) ps (ts.take n)) ⟨same_upd nD, [], upd_same, .nil⟩ ?_ ?_ ?_
  · rintro n H' hn' ⟨sm, _⟩
    exact .inl (.inl (sm _ _ hl))
  · rintro n x H' hx ⟨sm, ps, hD, hps⟩
    obtain ⟨t, htt, rfl⟩ := get_ref hx
    refine ⟨?_, yesI ⟨.ref t, ?_, by show 2 ≤ sizeLine; decide, fun p np => ?_⟩⟩
    · show (((σ.set io none).set io (some (V.ref t))).set io none) = σ.set io none
      rw [List.set_set, List.set_set]
    · show ((wipe σ [io]).set io (some (V.ref t)))[io]? = some (some (V.ref t))
      rw [List.getElem?_set_self (by rw [wipe_length]; exact ho)]
    · have s1 : Same H' (upd H' p (.tup [.ref t, .bl true])) := same_upd np
      have hD1 := s1 _ _ hD
      have hp1 : (upd H' p (.tup [.ref t, .bl true])) p = some (.tup [.ref t, .bl true]) := upd_same
      refine ⟨_, hD1, ?_, Same.new (Same.trans sm s1) nD, ps ++ [p], ?_, ?_⟩
      · rw [List.length_map, Paired.length hps, List.length_take]
        have := ht.len
        exact sl_lt (by omega)
      · rw [upd_same, List.map_append]
        rfl
      · rw [take_next htt]
        have tsm : TSame H' (upd (upd H' p (.tup [.ref t, .bl true])) D (.lst (ps.map V.ref ++ [.ref p]))) := (TSame.of s1).trans (TSame.upd hD1 fun _ z => nomatch z)
        refine Paired.snoc (Paired.mapP hps fun _ _ z => tsm _ _ z) ?_
        rw [upd_ne (ne_of hp1 hD1 fun z => nomatch z), upd_same]
  · rintro H' ⟨sm, ps, hD, hps⟩
    rw [List.length_map, List.take_length] at hps
    obtain ⟨es, e1, e2, e3⟩ := rows_es (ht.ts (.of sm)) hps
    refine ⟨D, es, rfl, by rw [e1]; exact .inl (.inl hD), e3, by rw [e2]; exact rk_nodup hn, fun p np => q _ p (Same.trans s0 (Same.trans sm (same_upd np))) ⟨_, upd_same, es_keys e2⟩⟩
open Classical in
noncomputable def stB (L : Lt) (G : List (List Nat)) (r : List Nat) : Bool := decide (Stays L (fun s => s ∈ G) r)
theorem stB_iff {L : Lt} {G : List (List Nat)} {r : List Nat} : stB L G r = true ↔ Stays L (fun s => s ∈ G) r := by
  classical
  unfold stB
  exact decide_eq_true_iff
/-! ### the law's book -/
def spLBook : Sp := fun vs H Q _ => ∃ (a : Addr) (L : Lt) (k : Nat), vs = [.ref a, iV (k + 1)] ∧ LotAt H a L ∧ LF L ∧ k ≤ 4 ∧ ∀ H' p (kvs : List (List Key × V)), Same H H' → H' p = some (.dT kvs) → (kvs ≠ [] ↔ SrvL L (k + 1)) → Q (.ref p) H'
theorem scLBook : FnScope ["_law_lot_here", "_law_n", "_law_ups_here", "_law_there", "_law_goes_on", "_law_stays_here", "_law_row"] ["_law_lot_here", "_law_n"] (defScope sLBook) := ⟨rfl, rfl, rfl, by decide +kernel, rfl, by decide +kernel, by decide +kernel⟩
theorem ok_lbook {f fU fR fS : Addr} {fd fdU fdR fdS : FuncData} (F : Fun K "_law_book" "_law_book" sLBook f fd) (CU : Cal P w K mg base "_law_ups" 1 ["_law_lot_here"] spUps fU fdU)
    (CR : Cal P w K mg base "_law_rows" 1 ["_law_ups_here", "_law_size"] spRows fR fdR) (CS : Cal P w K mg base "_law_stays" 1 ["_law_ups_here", "_law_row", "_law_there"] spStays fS fdS) (md : mg "dict" = none) (ml : mg "len" = none) :
    FnOk P w K mg base CX0 2 f fd ["_law_lot_here", "_law_n"] spLBook := by
  refine F.ok scLBook (fun vs H Q E h => ?_) (fun cdv A outer s H vs Q E hr h => ?_)
  · obtain ⟨d, L, k, rfl, _⟩ := h
    rfl
  · obtain ⟨a, L, k, rfl, hL, lf, hk, q⟩ := h
    refine ⟨_, pss_cons (ps_set (i := 2) scLBook.nd rfl (.inr rfl) (pe_call CU.ok hr (by rfl) CU.g CU.kp CU.b .nil pass0 (pa_cons (pv 0) pa_nil)))
      (pss_cons (ps_asg (pe_tup (pa_cons (pe_callTy (call_dictT hr.units rfl) (by rfl) md rfl (pa_cons (pe_lc (own := [("_law_row", 6)]) (g := gName 6) (tt := tYes) (te := tTup (tCons (tVar 6) (tCons (tC (.bl true)) tNil))) rfl scLBook.nd
              (pi_list (pe_call CR.ok hr (by rfl) CR.g CR.kp CR.b .nil pass0 (pa_cons (pv 2) (pa_cons (pe_op op_sub (pv 1) pe_int) pa_nil))))
              (blkOk_by (own := [("_law_row", 6)]) (N := ["_law_lot_here", "_law_n", "_law_ups_here", "_law_there", "_law_goes_on", "_law_stays_here", "_law_row"]) (sc := defScope sLBook) (by decide +kernel))
              (fun _ _ _ _ _ => pg_name (i := 6) scLBook.nd rfl (.inl rfl)) (fun _ _ _ _ _ => pts_nil) (fun _ _ _ _ _ => pe_tup (pa_cons (pv 6) (pa_cons pe_bl pa_nil)))) pa_nil)) (pa_cons pe_bl pa_nil)))
          (pg_tup rfl (pgs_cons (pg_name (i := 3) scLBook.nd rfl (.inr rfl)) (pgs_cons (pg_name (i := 4) scLBook.nd rfl (.inl rfl)) pgs_nil))))
      (pss_cons (ps_while PassesOwn.never (pt_val (pv 4))
        (pss_cons (ps_lock (ps_setLc (own := [("_law_row", 6)]) (g := gName 6) (i := 5) (tt := tB (tCall spStays [] (fun _ _ _ => False) (tCons (tVar 2) (tCons (tVar 6) (tCons (tVar 3) tNil))))) (te := tVar 6) rfl scLBook.nd rfl rfl (sw_true rfl rfl rfl (by decide +kernel))
            (pi_keys (pv 3))
            (blkOk_by (own := [("_law_row", 6)]) (N := ["_law_lot_here", "_law_n", "_law_ups_here", "_law_there", "_law_goes_on", "_law_stays_here", "_law_row"]) (sc := defScope sLBook) (by decide +kernel))
            (fun _ _ _ _ _ => pg_name (i := 6) scLBook.nd rfl (.inl rfl)) (fun _ _ _ _ _ => pts_one (pt_val (pe_call CS.ok hr (by rfl) CS.g CS.kp CS.b .nil pass0 (pa_cons (pv 2) (pa_cons (pv 6) (pa_cons (pv 3) pa_nil)))))) (fun _ _ _ _ _ => pv 6)))
        (pss_cons (ps_set (i := 4) scLBook.nd rfl (.inl rfl) (pe_cmp (pc_lt (pe_callB call_len_seq (by rfl) ml PySem.boot_len (pa_cons (pv 5) pa_nil)) (pe_callB call_len_dT (by rfl) ml PySem.boot_len (pa_cons (pv 3) pa_nil)))))
        (pss_one (ps_set (i := 3) scLBook.nd rfl (.inr rfl) (pe_callTy (call_dictT hr.units rfl) (by rfl) md rfl (pa_cons (pe_lc (own := [("_law_row", 6)]) (g := gName 6) (tt := tYes) (te := tTup (tCons (tVar 6) (tCons (tC (.bl true)) tNil))) rfl scLBook.nd
              (pi_list (pv 5))
              (blkOk_by (own := [("_law_row", 6)]) (N := ["_law_lot_here", "_law_n", "_law_ups_here", "_law_there", "_law_goes_on", "_law_stays_here", "_law_row"]) (sc := defScope sLBook) (by decide +kernel))
              (fun _ _ _ _ _ => pg_name (i := 6) scLBook.nd rfl (.inl rfl)) (fun _ _ _ _ _ => pts_nil) (fun _ _ _ _ _ => pe_tup (pa_cons (pv 6) (pa_cons pe_bl pa_nil)))) pa_nil)))))))
      (pss_one (ps_ret (pv 3))))), ?_⟩
    have hfew := rows_few lf.few hk
    refine ⟨.ref a, rfl, a, L, rfl, hL, lf, fun H1 u s1 hU => ?_⟩
    refine gN_i ?_
    dsimp only
    refine sq_i ?_
    refine as_i ?_
    refine tp_i ?_
    refine tc_i ?_
    refine rd_dict (K := K) (io := 6) (rs := rowsL L k) ?_ ?_ (rows_nodup L k) (by omega) ?_
    · refine fun R h => ⟨.ref u, rfl, iV (k + 1), rfl, ((k + 1 : Nat) : Int), 1, rfl, rfl, u, L, k, ?_, hU, lf, hk, fun H2 l ts s2 hl hts => ⟨l, rfl, ⟨_, .inl (.inl hl)⟩, h H2 l ts s2 hl hts⟩⟩
      show [V.ref u, V.int (((k + 1 : Nat) : Int) - 1)] = [V.ref u, V.int (k : Int)]
      rw [show ((k + 1 : Nat) : Int) - 1 = (k : Int) by omega]
    · show 6 < 7; decide
    refine fun H3 d s3 hd => ?_
    refine ⟨by show 2 ≤ sizeLine; decide, fun T nT => ?_⟩
    have sT : Same H3 (upd H3 T (.tup [.ref d, .bl true])) := same_upd nT
    refine ⟨T, [.ref d, .bl true], rfl, .inl (.inl upd_same), rfl, .ref d, [.bl true], rfl, .bl true, [], rfl, rfl, ?_⟩
    have s13 := Same.trans s1 (Same.trans s3 sT)
    have hU3 := hU.same (Same.trans s3 sT)
    replace hd := hd.same sT
    generalize upd H3 T (.tup [.ref d, .bl true]) = H4 at s13 hU3 hd
    clear hU nT sT s1 s3
    refine ⟨fun m σ H' => ∃ d go y5 G, σ = [some (.ref a), some (iV (k + 1)), some (.ref u), some (.ref d), some (.bl go), y5, none] ∧ Same H4 H' ∧ KeysAt H' d G ∧ G.Nodup ∧ (∀ r ∈ G, r ∈ rowsL L k) ∧ (∀ S, ClosedL L k S → ∀ r, S r → r ∈ G) ∧
      (go = false → ClosedL L k (fun r => r ∈ G)) ∧ m = 2 * G.length + (if go then 1 else 0), ⟨_, d, true, none, rowsL L k, rfl, Same.refl _, hd, rows_nodup L k, fun r hr => hr, fun S hS r hr => (hS r hr).1, fun z => (nomatch z), rfl⟩, ?_⟩
    clear hd d
    rintro m σ H' ⟨d, go, y5, G, rfl, sm, ⟨kvs, hd, hkp⟩, hGn, hGr, hGg, hcl, rfl⟩
    have hkl := Paired.length hkp
    have hGl := nodup_sub_len hGn hGr
    refine ⟨.bl go, rfl, go, rfl, ?_⟩
    refine ite2 (fun c => ?_) (fun c => ?_)
    · subst c
      refine ⟨fun σ' H'' => ∃ d go y5 G', σ' = [some (.ref a), some (iV (k + 1)), some (.ref u), some (.ref d), some (.bl go), y5, none] ∧ Same H4 H'' ∧ KeysAt H'' d G' ∧ G'.Nodup ∧ (∀ r ∈ G', r ∈ rowsL L k) ∧ (∀ S, ClosedL L k S → ∀ r, S r → r ∈ G') ∧
        (go = false → ClosedL L k (fun r => r ∈ G')) ∧ 2 * G'.length + (if go then 1 else 0) < 2 * G.length + (if true then 1 else 0), ?_, ?_⟩
      · rintro σ' H'' ⟨d, go, y5, G', q1, q2, q3, q4, q5, q6, q7, q8⟩
        exact ⟨_, q8, d, go, y5, G', q1, q2, q3, q4, q5, q6, q7, rfl⟩
      refine ⟨d, .dT kvs, hd, trivial, fun od => ?_⟩
      refine ⟨.ref d, rfl, d, od, rfl, .inr ⟨kvs, upd_same, fun D nD => ?_⟩⟩
      have hU1 := hU3.same sm
      obtain ⟨us, hul, hua, hud⟩ := hU1
      generalize hHc : upd H' d (.frz od (.dT kvs)) = Hc at nD
      have hcd : Hc d = some (.frz od (.dT kvs)) := by rw [← hHc]; exact upd_same
      have hUc : UpsAt Hc u L := by
        refine ⟨us, hul, ?_, fun y v e => ?_⟩
        · rw [← hHc, upd_ne (ne_of hua hd fun z => nomatch z)]; exact hua
        · obtain ⟨kv, g1, g2⟩ := hud y v e
          exact ⟨kv, by rw [← hHc, upd_ne (ne_of g1 hd fun z => nomatch z)]; exact g1, g2⟩
      refine lc_it walk_keysT (fun i H2 => Same Hc H2 ∧ ∃ ts : List Addr, H2 D = some (.lst (ts.map V.ref)) ∧ RowsAt H2 ts ((G.take i).filter (stB L G))) ⟨same_upd nD, [], upd_same, .nil⟩ ?_ ?_ ?_
      · rintro i H2 hi ⟨s2, _⟩
        exact s2 _ _ hcd
      · rintro i x H0' H2 hi ⟨s2, ts, hD, hts⟩ ⟨rfl, kk, v, t, hkv, rfl, ht⟩
        obtain ⟨r, hr2, hkr, _⟩ := paired_get hkp hkv
        have hkr : kk = rk r := hkr
        subst hkr
        rw [rk_kV] at ht
        have hiG : i < G.length := (List.getElem?_eq_some_iff.mp hr2).1
        refine ⟨rfl, .ref u, rfl, .ref t, rfl, .ref d, rfl, u, t, d, L, k, r, G, rfl, hUc.same s2, ht, ⟨kvs, .inr ⟨od, s2 _ _ hcd⟩, hkp⟩, hGr r (List.mem_of_getElem? hr2), lf, hk, fun H5 b s5 hb => ⟨b, rfl, ?_⟩⟩
        have eb : b = stB L G r := by
          rw [Bool.eq_iff_iff, hb, stB_iff]
        subst eb
        rw [take_next hr2, List.filter_append]
        refine ite2 (fun c => ?_) (fun c => ?_)
        · have e1 : [r].filter (stB L G) = [r] := by rw [List.filter_cons, if_pos c, List.filter_nil]
          rw [e1]
          have hD5 := s5 _ _ hD
          refine ⟨.ref t, rfl, _, hD5, ?_, Same.new (Same.trans s2 s5) nD, ts ++ [t], ?_, ?_⟩
          · rw [List.length_map, hts.len]
            have h1 := List.length_filter_le (stB L G) (G.take i)
            rw [List.length_take] at h1
            exact sl_lt (by omega)
          · rw [upd_same, List.map_append]; rfl
          · exact ((hts.ts (.of s5)).snoc (s5 _ _ ht)).ts (TSame.upd hD5 fun _ z => nomatch z)
        · have e1 : [r].filter (stB L G) = [] := by rw [List.filter_cons, if_neg c, List.filter_nil]
          rw [e1, List.append_nil]
          exact ⟨Same.trans s2 s5, ts, s5 _ _ hD, hts.ts (.of s5)⟩
      · rintro H2 ⟨s2, ts, hD, hts⟩
        rw [hkl, List.take_length] at hts
        have hdc := s2 _ _ hcd
        refine ⟨hdc, ?_⟩
        have s6 : Same H' (upd H2 d (.dT kvs)) := unlock_same (o' := .frz od (.dT kvs)) (by rw [hHc]; exact s2) hd
        have hD6 : (upd H2 d (.dT kvs)) D = some (.lst (ts.map V.ref)) := by rw [upd_ne (ne_of hD hdc fun z => nomatch z)]; exact hD
        have hd6 : (upd H2 d (.dT kvs)) d = some (.dT kvs) := upd_same
        replace hts := hts.ts (TSame.upd (o := .dT kvs) hdc fun _ z => nomatch z)
        generalize upd H2 d (.dT kvs) = H6 at s6 hD6 hd6 hts
        refine ⟨.ref D, rfl, D, _, rfl, .inl (.inl (.inl hD6)), .ref d, rfl, d, kvs, rfl, hd6, _, _, rfl, rfl, ?_⟩
        refine gN_i ?_
        dsimp only
        refine as_i ?_
        have hfl := List.length_filter_le (stB L G) G
        refine rd_dict (K := K) (io := 6) (rs := G.filter (stB L G)) ?_ ?_ (hGn.sublist List.filter_sublist) (by omega) ?_
        · exact fun R h => ⟨.ref D, rfl, D, rfl, ⟨_, .inl (.inl hD6)⟩, h H6 D ts (Same.refl _) hD6 hts⟩
        · show 6 < 7; decide
        refine fun H7 d2 s7 hd7 => ?_
        have hlt : ((ts.map V.ref).length : Int) < (kvs.length : Int) ↔ (G.filter (stB L G)).length < G.length := by
          rw [List.length_map, hts.len, hkl]
          omega
        refine ⟨d2, _, some (.ref D), G.filter (stB L G), rfl, Same.trans sm (Same.trans s6 s7), hd7, hGn.sublist List.filter_sublist, fun r hr => hGr r (List.mem_filter.mp hr).1, fun S hS r hr => ?_, fun hgo => ?_, ?_⟩
        · refine List.mem_filter.mpr ⟨hGg S hS r hr, stB_iff.mpr ((hS r hr).2.mono fun s hs => hGg S hS s hs)⟩
        · have hgo := of_decide_eq_false hgo
          rw [hlt] at hgo
          have e1 : G.filter (stB L G) = G := List.filter_sublist.eq_of_length_le (by omega)
          rw [e1]
          intro r hr
          have hr2 : r ∈ G.filter (stB L G) := by rw [e1]; exact hr
          exact ⟨hGr r hr, stB_iff.mp (List.mem_filter.mp hr2).2⟩
        · by_cases c : ((ts.map V.ref).length : Int) < (kvs.length : Int)
          · have := hlt.mp c
            rw [if_pos (decide_eq_true c), if_pos rfl]
            omega
          · rw [if_neg (by rw [decide_eq_false c]; decide), if_pos rfl]
            omega
    · have c : go = false := by simpa using c
      subst c
      refine ⟨.ref d, rfl, q H' d kvs (Same.trans s13 sm) hd ?_⟩
      rw [serves_iff (hcl rfl) hGg]
      constructor
      · intro hne
        cases hkp with
        | nil => exact absurd rfl hne
        | @cons kv r _ G _ _ => exact ⟨r, by simp⟩
      · rintro ⟨r, hr⟩ hn
        subst hn
        cases hkp
        cases hr
end
end K9

set_option Elab.async false
set_option linter.all false
set_option maxRecDepth 100000
namespace K9
open PySem PySem.Spec PyProof.Rows L2
section
variable {P : Program} {w : World} {K : PySem.W.Frag} {mg : Str → Option Value} {base : Heap}
/-! ### the law's reach -/
theorem scLReach : FnScope ["_law_lot_here", "_law_found"] ["_law_lot_here"] (defScope sLReach) := ⟨rfl, rfl, rfl, by decide +kernel, rfl, by decide +kernel, by decide +kernel⟩
theorem ok_lreach {f fB : Addr} {fd fdB : FuncData} (F : Fun K "_law_reach" "_law_reach" sLReach f fd) (CB : Cal P w K mg base "_law_book" 2 ["_law_lot_here", "_law_n"] spLBook fB fdB) : FnOk P w K mg base CX0 3 f fd ["_law_lot_here"] spReach := by
  refine F.ok scLReach (fun vs H Q E h => ?_) (fun cdv A outer s H vs Q E hr h => ?_)
  · obtain ⟨d, L, rfl, _⟩ := h
    rfl
  · obtain ⟨a, L, rfl, hL, lf, h5, q⟩ := h
    refine ⟨_, pss_cons (ps_set (i := 1) scLReach.nd rfl (.inl rfl) pe_int)
      (pss_cons (ps_while PassesOwn.never ((pw_and (pt_cmp (pc_lt (pv 1) pe_int)) (pw_and1 (pt_cmpR (op_ne0 hr.units0) (pe_call CB.ok hr (by rfl) CB.g CB.kp CB.b .nil pass0 (pa_cons (pv 0) (pa_cons (pe_op op_add (pv 1) pe_int) pa_nil))) pe_dnewT rfl))).pt)
        (pss_one (ps_set (i := 1) scLReach.nd rfl (.inl rfl) (pe_op op_add (pv 1) pe_int))))
      (pss_one (ps_ret (pv 1)))), ?_⟩
    refine ⟨fun m σ H' => ∃ f : Nat, σ = [some (.ref a), some (iV f)] ∧ Same H H' ∧ SrvL L f ∧ f ≤ 5 ∧ m = 5 - f, ⟨5, 0, rfl, Same.refl _, serves_zero _ _, by omega, rfl⟩, ?_⟩
    rintro m σ H' ⟨f, rfl, sm, hf, hf5, rfl⟩
    refine ⟨iV f, rfl, f, 5, rfl, rfl, _, rfl, ?_⟩
    refine ite2 (fun c => ?_) (fun c => ?_)
    · have c : f < 5 := by
        have := of_decide_eq_true c
        omega
      refine ⟨.ref a, rfl, iV f, rfl, f, 1, rfl, rfl, a, L, f, ?_, hL.same sm, lf, by omega, fun H2 p kvs s2 hp hb e ne => ?_⟩
      · rfl
      · have s3 : Same H2 (upd H2 e (.dT [])) := same_upd ne
        refine ⟨p, e, kvs.length, rfl, rfl, .inr ⟨kvs, .inl (s3 _ _ hp), rfl⟩, .inr ⟨[], .inl upd_same, rfl⟩, _, rfl, ?_⟩
        have hk : (!(kvs.length == 0)) = true ↔ kvs ≠ [] := by
          cases kvs with
          | nil => simp
          | cons => simp
        refine ite2 (fun c2 => ?_) (fun c2 => ?_)
        · refine ⟨fun σ' H'' => ∃ f' : Nat, σ' = [some (.ref a), some (iV f')] ∧ Same H H'' ∧ SrvL L f' ∧ f' ≤ 5 ∧ 5 - f' < 5 - f, ?_, ?_⟩
          · rintro σ' H'' ⟨f', q1, q2, q3, q4, q5⟩
            exact ⟨_, q5, f', q1, q2, q3, q4, rfl⟩
          · exact ⟨iV f, rfl, f, 1, rfl, rfl, f + 1, rfl, Same.trans sm (Same.trans s2 s3), hb.mp (hk.mp c2), by omega, by omega⟩
        · have e := rho_found lf.ok h5 hf (.inr fun z => c2 (hk.mpr (hb.mpr z)))
          refine ⟨iV f, rfl, ?_⟩
          rw [e]
          exact q _ (Same.trans sm (Same.trans s2 s3))
    · have c : 5 ≤ f := Nat.le_of_not_lt fun z => c (decide_eq_true (by omega : (f : Int) < 5))
      have e := rho_found lf.ok h5 hf (.inl c)
      refine ite2 (fun z => absurd z (by decide)) (fun _ => ?_)
      refine ⟨iV f, rfl, ?_⟩
      rw [e]
      exact q _ sm
/-! ### later in the tower -/
theorem latT_drop {T : List Lt} {x y : List Nat} {i : Nat} {L : Lt} {a b : Nat} (hT : T[i]? = some L) (hx : x[i]? = some a) (hy : y[i]? = some b) : latT (T.drop i) (x.drop i) (y.drop i) = if a = b then latT (T.drop (i + 1)) (x.drop (i + 1)) (y.drop (i + 1)) else lat L a b := by
  have g : ∀ {α : Type} {l : List α} {z : α}, l[i]? = some z → l.drop i = z :: l.drop (i + 1) := fun {α l z} h => by
    obtain ⟨hi, e⟩ := List.getElem?_eq_some_iff.mp h
    rw [← e, List.drop_eq_getElem_cons hi]
  rw [g hT, g hx, g hy]
  rfl
def spLater : Sp := fun vs H Q _ => ∃ (a x y : Addr) (T : List Lt) (m n : List Nat), vs = [.ref a, .ref x, .ref y] ∧ TowAt H a T ∧ H x = some (.tup (rV m)) ∧ H y = some (.tup (rV n)) ∧ m.length = T.length ∧ n.length = T.length ∧ ∀ H', Same H H' → Q (.bl (latT T m n)) H'
theorem scLLater : FnScope ["_law_tower_here", "_law_x", "_law_y", "_law_lot_here", "_law_one", "_law_other"] ["_law_tower_here", "_law_x", "_law_y"] (defScope sLLater) := ⟨rfl, rfl, rfl, by decide +kernel, rfl, by decide +kernel, by decide +kernel⟩
theorem ok_llater {f : Addr} {fd : FuncData} {k : Nat} (F : Fun K "_law_later" "_law_later" sLLater f fd) (mz : mg "zip" = none) : FnOk P w K mg base CX0 (k + 1) f fd ["_law_tower_here", "_law_x", "_law_y"] spLater := by
  refine F.ok scLLater (fun vs H Q E h => ?_) (fun cdv A outer s H vs Q E hr h => ?_)
  · obtain ⟨a, x, y, T, m, n, rfl, _⟩ := h
    rfl
  · obtain ⟨a, x, y, T, m, n, rfl, ⟨ts, ha, hts⟩, hx, hy, lm, ln, q⟩ := h
    refine ⟨_, pss_cons (ps_for PassesOwn.never rfl (pi_zip3 (by rfl) mz (pa_cons (pv 0) (pa_cons (pv 1) (pa_cons (pv 2) pa_nil))))
          (pg_tup rfl (pgs_cons (pg_name (i := 3) scLLater.nd rfl (.inl rfl)) (pgs_cons (pg_name (i := 4) scLLater.nd rfl (.inl rfl)) (pgs_cons (pg_name (i := 5) scLLater.nd rfl (.inl rfl)) pgs_nil))))
        (pss_one (ps_if (pt_cmp (pc_neI (pv 4) (pv 5))) (pss_one (ps_ret (pe_cmpR (op_inP hr.units) (pe_tup (pa_cons (pv 4) (pa_cons (pv 5) pa_nil))) (pe_ix ix_tup (pv 3) pe_int (fun _ _ => rfl)) rfl))) pss_nil)))
      (pss_one (ps_ret pe_bl)), ?_⟩
    have hl := Paired.length hts
    refine ⟨.ref a, rfl, .ref x, rfl, .ref y, rfl, a, x, y, ts.map V.ref, rV m, rV n, rfl, .inl (.inl ha), .inl (.inl hx), .inl (.inl hy), ?_⟩
    refine for_zip3 (xs := ts.map V.ref) (ys := rV m) (zs := rV n) (by rw [List.length_map, rV_len]; omega) (by rw [List.length_map, rV_len]; omega) (fun i σ H' => ∃ y3 y4 y5, σ = [some (.ref a), some (.ref x), some (.ref y), y3, y4, y5] ∧ Same H H' ∧ latT T m n = latT (T.drop i) (m.drop i) (n.drop i))
      ⟨none, none, none, rfl, Same.refl _, rfl⟩ ?_ ?_ ?_
    · rintro i σ H' ⟨_, _, _, rfl, sm, _⟩
      exact ⟨.inl (.inl (sm _ _ ha)), .inl (.inl (sm _ _ hx)), .inl (.inl (sm _ _ hy))⟩
    · rintro i x1 x2 x3 T0 σ H' g1 g2 g3 ⟨y3, y4, y5, rfl, sm, hlat⟩ nT
      obtain ⟨t, ht, rfl⟩ := get_ref g1
      obtain ⟨p, hp, rfl⟩ := get_iV g2
      obtain ⟨r, hr', rfl⟩ := get_iV g3
      obtain ⟨L, hL, hLt⟩ := paired_get hts ht
      rw [latT_drop hL hp hr'] at hlat
      have sT : Same H' (upd H' T0 (.tup [.ref t, iV p, iV r])) := same_upd nT
      refine ⟨T0, [.ref t, iV p, iV r], rfl, .inl (.inl upd_same), rfl, .ref t, [iV p, iV r], rfl, iV p, [iV r], rfl, iV r, [], rfl, rfl, ?_⟩
      refine ⟨iV p, rfl, iV r, rfl, _, _, rfl, rfl, _, rfl, ?_⟩
      refine ite2 (fun c => ?_) (fun c => ?_)
      · have c : p ≠ r := fun z => by
          subst z
          simp at c
        rw [if_neg c] at hlat
        refine ⟨iV p, rfl, iV r, rfl, by show 2 ≤ sizeLine; decide, fun t2 n2 => ?_⟩
        have s2 : Same (upd H' T0 (.tup [.ref t, iV p, iV r])) (upd (upd H' T0 (.tup [.ref t, iV p, iV r])) t2 (.tup [iV p, iV r])) := same_upd n2
        have hLt2 := hLt.same (Same.trans sm (Same.trans sT s2))
        obtain ⟨b, tsp, hb1, hb2, hb3⟩ := hLt2
        refine ⟨.ref t, rfl, t, _, 1, .ref b, rfl, rfl, .inl (.inl hb1), rfl, ?_⟩
        refine ⟨t2, b, (p, r), tsp, L.2, rfl, rfl, upd_same, hb2, hb3, ?_⟩
        have := q _ (Same.trans sm (Same.trans sT s2))
        rw [hlat] at this
        exact this
      · have c : p = r := by
          refine Classical.byContradiction fun z => c ?_
          have : (p : Int) ≠ r := fun e => z (by omega)
          simpa using this
        rw [if_pos c] at hlat
        exact ⟨_, _, _, rfl, Same.trans sm sT, hlat⟩
    · rintro σ H' ⟨y3, y4, y5, rfl, sm, hlat⟩
      rw [List.length_map, hl, List.drop_length] at hlat
      have := q H' sm
      rw [hlat, show latT [] (m.drop T.length) (n.drop T.length) = false by unfold latT; rfl] at this
      exact this
end
end K9

set_option Elab.async false
set_option linter.all false
set_option maxRecDepth 100000
namespace K9
open PySem PySem.Spec PyProof.Rows L2
/-! ### all marks of a tower -/
def extA (n : Nat) (m : List Nat) : List (List Nat) := (List.range n).map fun x => m ++ [x]
def amG (T : List Lt) (f : List (List Nat)) : List (List Nat) := T.foldl (fun f L => f.flatMap (extA L.1)) f
theorem mem_amG : ∀ (T : List Lt) (f : List (List Nat)) (x : List Nat), x ∈ amG T f ↔ ∃ m ∈ f, ∃ y, MarkT T y ∧ x = m ++ y
  | [], f, x => by
    unfold amG
    rw [List.foldl_nil]
    constructor
    · intro h
      exact ⟨x, h, [], trivial, by simp⟩
    · rintro ⟨m, hm, y, hy, rfl⟩
      cases y with
      | nil => simpa using hm
      | cons a y => exact hy.elim
  | L :: T, f, x => by
    have ih := mem_amG T (f.flatMap (extA L.1)) x
    have e : amG (L :: T) f = amG T (f.flatMap (extA L.1)) := rfl
    rw [e, ih]
    constructor
    · rintro ⟨m', hm', y, hy, rfl⟩
      obtain ⟨m, hm, h2⟩ := List.mem_flatMap.mp hm'
      obtain ⟨a, ha, rfl⟩ := List.mem_map.mp h2
      exact ⟨m, hm, a :: y, ⟨List.mem_range.mp ha, hy⟩, by simp⟩
    · rintro ⟨m, hm, y, hy, rfl⟩
      cases y with
      | nil => exact hy.elim
      | cons a y =>
        exact ⟨m ++ [a], List.mem_flatMap.mpr ⟨m, hm, List.mem_map.mpr ⟨a, List.mem_range.mpr hy.1, rfl⟩⟩, y, hy.2, by simp⟩
theorem extA_nodup (n : Nat) (m : List Nat) : (extA n m).Nodup := List.pairwise_map.mpr (List.nodup_range.imp fun {a b} h e => h (snoc_inj e).2)
theorem nodup_amG : ∀ (T : List Lt) (f : List (List Nat)), f.Nodup → (amG T f).Nodup
  | [], f, h => h
  | L :: T, f, h => by
    refine nodup_amG T (f.flatMap (extA L.1)) ?_
    rw [List.flatMap_def]
    refine List.pairwise_flatten.mpr ⟨fun l hl => ?_, ?_⟩
    · obtain ⟨r, _, rfl⟩ := List.mem_map.mp hl
      exact extA_nodup _ _
    · rw [List.pairwise_map]
      refine h.imp fun {r s} h x hx y hy e => ?_
      subst e
      obtain ⟨a, _, e1⟩ := List.mem_map.mp hx
      obtain ⟨b, _, e2⟩ := List.mem_map.mp hy
      exact h (snoc_inj (e1.trans e2.symm)).1
theorem extA_flat (n : Nat) (f : List (List Nat)) : (f.flatMap (extA n)).length = f.length * n := by
  induction f with
  | nil => simp
  | cons m f ih =>
    rw [List.flatMap_cons, List.length_append, ih, List.length_cons, Nat.succ_mul]
    unfold extA
    rw [List.length_map, List.length_range]
    omega
theorem len_amG : ∀ (T : List Lt) (f : List (List Nat)), (amG T f).length = (T.map (·.1)).foldl (· * ·) f.length
  | [], f => rfl
  | L :: T, f => by
    have e : amG (L :: T) f = amG T (f.flatMap (extA L.1)) := rfl
    rw [e, len_amG T, extA_flat]
    rfl
theorem amG_next {T : List Lt} {i : Nat} {L : Lt} (h : T[i]? = some L) (f : List (List Nat)) : amG (T.take (i + 1)) f = (amG (T.take i) f).flatMap (extA L.1) := by
  unfold amG
  rw [take_next h, List.foldl_append]
  rfl
theorem amG_few : ∀ (T : List Lt) (f : List (List Nat)), (∀ L ∈ T, L.1 ≤ 4) → (amG T f).length ≤ f.length * 4 ^ T.length
  | [], f, _ => by simp [amG]
  | L :: T, f, h => by
    have e : amG (L :: T) f = amG T (f.flatMap (extA L.1)) := rfl
    have h1 := amG_few T (f.flatMap (extA L.1)) fun M hM => h M (by simp [hM])
    rw [extA_flat] at h1
    rw [e, List.length_cons, Nat.pow_succ]
    have h2 : f.length * L.1 ≤ f.length * 4 := Nat.mul_le_mul_left _ (h L (by simp))
    have h3 : f.length * L.1 * 4 ^ T.length ≤ f.length * 4 * 4 ^ T.length := Nat.mul_le_mul_right _ h2
    rw [Nat.mul_comm (4 ^ T.length) 4, ← Nat.mul_assoc]
    omega
theorem mark_len : ∀ {T : List Lt} {x : List Nat}, MarkT T x → x.length = T.length
  | [], [], _ => rfl
  | _ :: T, _ :: xs, h => by rw [List.length_cons, List.length_cons, mark_len h.2]
/-! ### sorted pairs -/
theorem sort_pairs {H : Hp} {ts : List Addr} {ps : List (Nat × Nat)} (h : PairsAt H ts ps) : ∃ es : List (Addr × List Int), es.map tI = ts.map V.ref ∧ (∀ p ∈ es, H p.1 = some (.tup (p.2.map V.int)) ∧ p.2 ≠ []) ∧
    ∀ ys : List (Addr × List Int), ys.Perm es → ∃ (us : List Addr) (qs : List (Nat × Nat)), ys.map tI = us.map V.ref ∧ qs.Perm ps ∧ PairsAt H us qs := by
  have key : ∃ zs : List (Addr × (Nat × Nat)), zs.map (·.1) = ts ∧ zs.map (·.2) = ps ∧ ∀ z ∈ zs, H z.1 = some (.tup [iV z.2.1, iV z.2.2]) := by
    unfold PairsAt at h
    induction h with
    | nil => exact ⟨[], rfl, rfl, by simp⟩
    | @cons t p ts ps h1 h2 ih =>
      obtain ⟨zs, e1, e2, e3⟩ := ih
      refine ⟨(t, p) :: zs, by rw [List.map_cons, e1], by rw [List.map_cons, e2], fun z hz => ?_⟩
      rcases List.mem_cons.mp hz with g | g
      · subst g; exact h1
      · exact e3 z g
  obtain ⟨zs, e1, e2, e3⟩ := key
  refine ⟨zs.map fun z => (z.1, [(z.2.1 : Int), (z.2.2 : Int)]), ?_, ?_, ?_⟩
  · rw [← e1, List.map_map, List.map_map]
    rfl
  · intro p hp
    obtain ⟨z, hz, rfl⟩ := List.mem_map.mp hp
    exact ⟨e3 z hz, by simp⟩
  · intro ys hy
    have hback : ∀ p ∈ ys, ∃ z ∈ zs, p = (z.1, [(z.2.1 : Int), (z.2.2 : Int)]) := fun p hp => by
      obtain ⟨z, hz, e⟩ := List.mem_map.mp (hy.mem_iff.mp hp)
      exact ⟨z, hz, e.symm⟩
    let g : Addr × List Int → Addr × (Nat × Nat) := fun p => (p.1, ((p.2.headD 0).toNat, (p.2.tail.headD 0).toNat))
    have hg : (ys.map g).Perm zs := by
      have := hy.map g
      rw [List.map_map] at this
      have e : (g ∘ fun z : Addr × (Nat × Nat) => (z.1, [(z.2.1 : Int), (z.2.2 : Int)])) = id := by
        funext z
        rfl
      rw [e, List.map_id] at this
      exact this
    refine ⟨(ys.map g).map (·.1), (ys.map g).map (·.2), ?_, ?_, ?_⟩
    · rw [List.map_map, List.map_map]
      rfl
    · rw [← e2]
      exact hg.map _
    · have all : ∀ z ∈ ys.map g, H z.1 = some (.tup [iV z.2.1, iV z.2.2]) := fun z hz => e3 z (hg.mem_iff.mp hz)
      generalize ys.map g = ws at all
      unfold PairsAt
      induction ws with
      | nil => exact .nil
      | cons z ws ih => exact .cons (all z (by simp)) (ih fun y hy => all y (by simp [hy]))
section
variable {P : Program} {w : World} {K : PySem.W.Frag} {mg : Str → Option Value} {base : Heap}
/-- tuple(sorted(xs)) -/
theorem rd_sorted {il : Nat} {σ : L2.St} {H : Hp} {Q : VK} {l : Addr} {ts : List Addr} {ps : List (Nat × Nat)} (hi : σ[il]? = some (some (.ref l))) (hl : H l = some (.lst (ts.map V.ref))) (hp : PairsAt H ts ps)
    (q : ∀ H' p (us : List Addr) (qs : List (Nat × Nat)), Same H H' → qs.Perm ps → H' p = some (.tup (us.map V.ref)) → PairsAt H' us qs → Q (.ref p) H') :
    tCB (fun xs H Q => ∃ p ys, xs = [.ref p] ∧ ((SqL K H p ys ∧ ∀ l, H l = none → Q (.ref l) (upd H l (.tup ys))) ∨ (SqT K H p ys ∧ Q (.ref p) H)))
      (tCons (tCB (rSortR K) (tCons (tVar il) tNil)) tNil) σ H Q := by
  obtain ⟨es, e1, e2, e3⟩ := sort_pairs hp
  refine ⟨.ref l, hi, l, es, rfl, by rw [e1]; exact .inl (.inl hl), fun _ p hp => ⟨.inl (.inl (e2 p hp).1), (e2 p hp).2⟩, fun ys pS hperm npS => ?_⟩
  obtain ⟨us, qs, g1, g2, g3⟩ := e3 ys hperm
  have s4 : Same H (upd H pS (.lst (ys.map tI))) := same_upd npS
  refine ⟨pS, ys.map tI, rfl, .inl ⟨.inl (.inl upd_same), fun l nl => ?_⟩⟩
  have s5 : Same (upd H pS (.lst (ys.map tI))) (upd (upd H pS (.lst (ys.map tI))) l (.tup (ys.map tI))) := same_upd nl
  refine q _ l us qs (Same.trans s4 s5) g2 ?_ ((g3.same s4).same s5)
  rw [upd_same, g1]
def spMarks : Sp := fun vs H Q _ => ∃ (a : Addr) (T : List Lt), vs = [.ref a] ∧ TowAt H a T ∧ (∀ L ∈ T, L.1 ≤ 4) ∧ T.length ≤ 3 ∧ ∀ H' p ts, Same H H' → H' p = some (.lst (ts.map V.ref)) → RowsAt H' ts (amG T [[]]) → Q (.ref p) H'
theorem scMarks : FnScope ["_law_tower_here", "_law_found", "_law_lot_here", "_law_longer", "_law_mark", "_law_one"] ["_law_tower_here"] (defScope sMarks) := ⟨rfl, rfl, rfl, by decide +kernel, rfl, by decide +kernel, by decide +kernel⟩
theorem ok_marks {f : Addr} {fd : FuncData} {k : Nat} (F : Fun K "_law_all_marks" "_law_all_marks" sMarks f fd) (mr : mg "range" = none) : FnOk P w K mg base CX0 (k + 1) f fd ["_law_tower_here"] spMarks := by
  refine F.ok scMarks (fun vs H Q E h => ?_) (fun cdv A outer s H vs Q E hr h => ?_)
  · obtain ⟨a, T, rfl, _⟩ := h
    rfl
  · obtain ⟨a, T, rfl, ⟨tt, ha, htt⟩, h4, h3, q⟩ := h
    refine ⟨_, pss_cons (ps_set (i := 1) scMarks.nd rfl (.inl rfl) (pe_lst (pa_cons (pe_tup pa_nil) pa_nil)))
      (pss_cons (ps_for PassesOwn.never rfl (pi_tup (pv 0)) (pg_name (i := 2) scMarks.nd rfl (.inl rfl))
        (pss_cons (ps_set (i := 3) scMarks.nd rfl (.inl rfl) (pe_lst pa_nil))
        (pss_cons (ps_for PassesOwn.never rfl (pi_list (pv 1)) (pg_name (i := 4) scMarks.nd rfl (.inr rfl))
          (pss_one (ps_expr (pe_bm PySem.F.plainAttrs_list PySem.F.slot_list_extend PySem.F.type_list_extend mt_extend (pv 3) (pa_cons
            (pe_lc (own := [("_law_one", 5)]) (g := gName 5) (tt := tYes) (te := tOp (rCatA K) (tVar 4) (tTup (tCons (tVar 5) tNil))) rfl scMarks.nd (pi_range1 (by rfl) mr (pa_cons (pe_ix ix_tup (pv 2) pe_int (fun _ _ => rfl)) pa_nil))
              (blkOk_by (own := [("_law_one", 5)]) (N := ["_law_tower_here", "_law_found", "_law_lot_here", "_law_longer", "_law_mark", "_law_one"]) (sc := defScope sMarks) (by decide +kernel))
              (fun _ _ _ _ _ => pg_name (i := 5) scMarks.nd rfl (.inl rfl)) (fun _ _ _ _ _ => pts_nil) (fun _ _ _ _ _ => pe_op op_catA (pv 4) (pe_tup (pa_cons (pv 5) pa_nil)))) pa_nil)))))
        (pss_one (ps_set (i := 1) scMarks.nd rfl (.inl rfl) (pv 3))))))
      (pss_one (ps_ret (pv 1)))), ?_⟩
    have hl := Paired.length htt
    have few : ∀ i, (amG (T.take i) [[]]).length ≤ 64 := fun i => by
      have h1 := amG_few (T.take i) [[]] fun L hL => h4 L (List.mem_of_mem_take hL)
      have h2 : 4 ^ (T.take i).length ≤ 4 ^ 3 := Nat.pow_le_pow_right (by omega) (by rw [List.length_take]; omega)
      have h3 : (4 : Nat) ^ 3 = 64 := rfl
      rw [List.length_cons, List.length_nil] at h1
      omega
    have wid : ∀ i, ∀ m ∈ amG (T.take i) [[]], m.length ≤ 3 := fun i m hm => by
      obtain ⟨m0, h0, y, hy, rfl⟩ := (mem_amG _ _ _).mp hm
      have h0 : m0 = [] := by simpa using h0
      subst h0
      have := mark_len hy
      rw [List.nil_append, this, List.length_take]
      omega
    refine ⟨Nat.zero_le _, fun t0 n0 => ⟨by show 1 ≤ sizeLine; decide, fun p0 np0 => ?_⟩⟩
    have sA : Same H (upd (upd H t0 (.tup [])) p0 (.lst [.ref t0])) := Same.trans (same_upd n0) (same_upd np0)
    have ht0 : (upd (upd H t0 (.tup [])) p0 (.lst [.ref t0])) t0 = some (.tup []) := same_upd np0 _ _ upd_same
    have hp0 : (upd (upd H t0 (.tup [])) p0 (.lst [.ref t0])) p0 = some (.lst ([t0].map V.ref)) := upd_same
    generalize upd (upd H t0 (.tup [])) p0 (.lst [.ref t0]) = H0 at sA ht0 hp0
    refine ⟨.ref a, rfl, a, rfl, ⟨_, .inl (.inl (sA _ _ ha))⟩, ?_⟩
    refine for_tup (xs := tt.map V.ref) (fun i σ H' => ∃ fA y2 y3 y4 ts, σ = [some (.ref a), some (.ref fA), y2, y3, y4, none] ∧ Same H H' ∧ H' fA = some (.lst (ts.map V.ref)) ∧ RowsAt H' ts (amG (T.take i) [[]]))
      ⟨p0, none, none, none, [t0], rfl, sA, hp0, .cons ht0 .nil⟩ ?_ ?_ ?_
    · rintro i σ H' hi ⟨_, _, _, _, _, rfl, sm, _⟩
      exact .inl (.inl (sm _ _ ha))
    · rintro i x σ H' hx ⟨fA, y2, y3, y4, ts, rfl, sm, hfA, hts⟩
      obtain ⟨lt, hlt, rfl⟩ := get_ref hx
      obtain ⟨L, hL, hLt⟩ := paired_get htt hlt
      have hL4 := h4 L (List.mem_of_getElem? hL)
      refine ⟨Nat.zero_le _, fun lA nl => ?_⟩
      have sB : Same H' (upd H' lA (.lst [])) := same_upd nl
      have nl0 := Same.free sm nl
      have hneA : fA ≠ lA := ne_of_none hfA nl
      refine ⟨.ref fA, rfl, fA, rfl, ⟨_, .inl (.inl (sB _ _ hfA))⟩, ?_⟩
      refine for_list (xs := ts.map V.ref) (fun j σ H2 => ∃ y4, σ = [some (.ref a), some (.ref fA), some (.ref lt), some (.ref lA), y4, none] ∧ Same H H2 ∧ H2 fA = some (.lst (ts.map V.ref)) ∧ RowsAt H2 ts (amG (T.take i) [[]]) ∧
        ∃ tl : List Addr, H2 lA = some (.lst (tl.map V.ref)) ∧ RowsAt H2 tl (((amG (T.take i) [[]]).take j).flatMap (extA L.1))) ⟨y4, rfl, Same.trans sm sB, sB _ _ hfA, hts.ts (.of sB), [], upd_same, .nil⟩ ?_ ?_ ?_
      · rintro j σ H2 hj ⟨_, rfl, _, e, _⟩
        exact .inl (.inl e)
      · rintro j x σ H2 hx ⟨y4, rfl, sm2, hfA2, hts2, tl, hlA, htl⟩
        obtain ⟨t, ht, rfl⟩ := get_ref hx
        obtain ⟨r, hr2, ht'⟩ := hts2.get ht
        have hrl := wid i r (List.mem_of_getElem? hr2)
        obtain ⟨lb, lts, hla, _⟩ := hLt.same sm2
        refine ⟨.ref lA, rfl, .inl ⟨rfl, _, .inl (.inl hlA)⟩, .ref lt, rfl, lt, _, 0, iV L.1, rfl, rfl, .inl (.inl hla), rfl, (L.1 : Int), rfl, by omega, by omega, fun D nD => ?_⟩
        refine lc_range (lo := 0) (n := L.1) (fun m H' => Same H2 H' ∧ ∃ td : List Addr, H' D = some (.lst (td.map V.ref)) ∧ RowsAt H' td ((List.range m).map fun x => r ++ [x])) ⟨same_upd nD, [], upd_same, .nil⟩ ?_ ?_
        · rintro m H3 hm ⟨sm3, td, hD, htd⟩
          have ei : (0 : Int) + (m : Int) = (m : Int) := by omega
          rw [ei]
          refine ⟨rfl, yesI ⟨.ref t, rfl, iV m, rfl, by show 1 ≤ sizeLine; decide, fun t5 n5 => ?_⟩⟩
          have s5 : Same H3 (upd H3 t5 (.tup [iV m])) := same_upd n5
          refine catA (s5 _ _ (sm3 _ _ ht')) upd_same (by rw [rV_len]; show r.length + 1 ≤ sizeLine; exact sl_le (by omega)) fun H6 p6 s6 e6 => ?_
          have s36 : Same H3 H6 := Same.trans s5 s6
          have hD6 := s36 _ _ hD
          refine ⟨_, hD6, ?_, Same.new (Same.trans sm3 s36) nD, td ++ [p6], ?_, ?_⟩
          · rw [List.length_map, htd.len, List.length_map, List.length_range]
            exact sl_lt (by omega)
          · rw [upd_same, List.map_append]; rfl
          · rw [List.range_succ, List.map_append]
            refine ((htd.ts (.of s36)).snoc ?_).ts (TSame.upd hD6 fun _ z => nomatch z)
            rw [e6, rV_app]
            rfl
        · rintro H3 ⟨sm3, td, hD, htd⟩
          have htd : RowsAt H3 td (extA L.1 r) := htd
          have hlA3 := sm3 _ _ hlA
          have hxl : (extA L.1 r).length = L.1 := by
            unfold extA
            rw [List.length_map, List.length_range]
          have hpl := pre_len (f := extA L.1) (j := 0) hr2
          rw [List.take_zero, List.append_nil] at hpl
          have hfw := few (i + 1)
          rw [amG_next hL] at hfw
          refine ⟨lA, D, _, _, rfl, rfl, hlA3, hD, by rw [List.length_map, List.length_map, htl.len, htd.len]; exact sl_le (by omega), ?_⟩
          have tsm : TSame H3 (upd H3 lA (.lst (tl.map V.ref ++ td.map V.ref))) := TSame.upd hlA3 fun _ z => nomatch z
          refine ⟨some (.ref t), rfl, Same.new (Same.trans sm2 sm3) nl0, ?_, (hts2.ts (.of sm3)).ts tsm, tl ++ td, ?_, ?_⟩
          · rw [upd_ne hneA]; exact sm3 _ _ hfA2
          · rw [upd_same, List.map_append]
          · rw [take_next hr2, List.flatMap_append, List.flatMap_cons, List.flatMap_nil, List.append_nil]
            exact ((htl.ts (.of sm3)).ts tsm).app (htd.ts tsm)
      · rintro σ H2 ⟨y4, rfl, sm2, hfA2, hts2, tl, hlA, htl⟩
        rw [List.length_map, hts2.len, List.take_length, ← amG_next hL] at htl
        exact ⟨.ref lA, rfl, lA, _, _, _, tl, rfl, sm2, hlA, htl⟩
    · rintro σ H' ⟨fA, y2, y3, y4, ts, rfl, sm, hfA, hts⟩
      rw [List.length_map, hl, List.take_length] at hts
      exact ⟨.ref fA, rfl, q H' fA ts sm hfA hts⟩
end
end K9

set_option Elab.async false
set_option linter.all false
set_option maxRecDepth 100000
namespace K9
open PySem PySem.Spec PyProof.Rows L2
/-! ### a tower as one lot -/
def prRow (T : List Lt) (ev : List (List Nat)) (x n : Nat) : List (Nat × Nat) := ((List.range n).filter fun y => latT T (ev.getD x []) (ev.getD y [])).map fun y => (x, y)
def prAll (T : List Lt) (ev : List (List Nat)) (i : Nat) : List (Nat × Nat) := (List.range i).flatMap fun x => prRow T ev x ev.length
theorem prRow_len (T : List Lt) (ev : List (List Nat)) (x n : Nat) : (prRow T ev x n).length ≤ n := by
  unfold prRow
  rw [List.length_map]
  have := List.length_filter_le (fun y => latT T (ev.getD x []) (ev.getD y [])) (List.range n)
  rw [List.length_range] at this
  exact this
theorem prAll_len (T : List Lt) (ev : List (List Nat)) : ∀ i, (prAll T ev i).length ≤ i * ev.length
  | 0 => by simp [prAll]
  | i + 1 => by
    have ih := prAll_len T ev i
    have h1 := prRow_len T ev i ev.length
    have e : prAll T ev (i + 1) = prAll T ev i ++ prRow T ev i ev.length := by
      unfold prAll
      rw [List.range_succ, List.flatMap_append, List.flatMap_cons, List.flatMap_nil, List.append_nil]
    rw [e, List.length_append, Nat.succ_mul]
    omega
theorem prAll_next (T : List Lt) (ev : List (List Nat)) (i : Nat) : prAll T ev (i + 1) = prAll T ev i ++ prRow T ev i ev.length := by
  unfold prAll
  rw [List.range_succ, List.flatMap_append, List.flatMap_cons, List.flatMap_nil, List.append_nil]
theorem mem_prAll {T : List Lt} {ev : List (List Nat)} {x y : Nat} : (x, y) ∈ prAll T ev ev.length ↔ x < ev.length ∧ y < ev.length ∧ latT T (ev.getD x []) (ev.getD y []) = true := by
  unfold prAll prRow
  rw [List.mem_flatMap]
  constructor
  · rintro ⟨x', hx, h⟩
    obtain ⟨y', hy, e⟩ := List.mem_map.mp h
    cases e
    obtain ⟨h1, h2⟩ := List.mem_filter.mp hy
    exact ⟨List.mem_range.mp hx, List.mem_range.mp h1, h2⟩
  · rintro ⟨h1, h2, h3⟩
    exact ⟨x, List.mem_range.mpr h1, List.mem_map.mpr ⟨y, List.mem_filter.mpr ⟨List.mem_range.mpr h2, h3⟩, rfl⟩⟩
theorem PairsAt.app {H : Hp} {ts us : List Addr} {ps qs : List (Nat × Nat)} (h : PairsAt H ts ps) (h2 : PairsAt H us qs) : PairsAt H (ts ++ us) (ps ++ qs) := by
  unfold PairsAt at h h2 ⊢
  induction h with
  | nil => exact h2
  | cons a b ih => exact .cons a ih
theorem PairsAt.snoc {H : Hp} {ts : List Addr} {ps : List (Nat × Nat)} {t : Addr} {p : Nat × Nat} (h : PairsAt H ts ps) (h2 : H t = some (.tup [iV p.1, iV p.2])) : PairsAt H (ts ++ [t]) (ps ++ [p]) := Paired.snoc h h2
/-- what a drawn tower is -/
structure TF (T : List Lt) : Prop where
  lots : ∀ L ∈ T, LtOk L ∧ 0 < L.1 ∧ L.1 ≤ 4
  small : ∀ L ∈ T, L.2.length ≤ 1000
  len : T.length ≤ 3
  prod : (T.map (·.1)).foldl (· * ·) 1 ≤ 9
section
variable {P : Program} {w : World} {K : PySem.W.Frag} {mg : Str → Option Value} {base : Heap}
def spAsOne : Sp := fun vs H Q _ => ∃ (a : Addr) (T : List Lt), vs = [.ref a] ∧ TowAt H a T ∧ TF T ∧ ∀ H' p W, Same H H' → LotAt H' p W → AsOne T W (amG T [[]]) → LF W → Q (.ref p) H'
theorem scAsOne : FnScope ["_law_tower_here", "_law_every", "_law_found", "_law_x", "_law_mark", "_law_y"] ["_law_tower_here"] (defScope sAsOne) := ⟨rfl, rfl, rfl, by decide +kernel, rfl, by decide +kernel, by decide +kernel⟩
theorem ok_asone {f fM fL : Addr} {fd fdM fdL : FuncData} (F : Fun K "_law_as_one" "_law_as_one" sAsOne f fd) (CM : Cal P w K mg base "_law_all_marks" 1 ["_law_tower_here"] spMarks fM fdM) (CL : Cal P w K mg base "_law_later" 1 ["_law_tower_here", "_law_x", "_law_y"] spLater fL fdL)
    (me : mg "enumerate" = none) (mr : mg "range" = none) (ml : mg "len" = none) (mt : mg "tuple" = none) (ms : mg "sorted" = none) : FnOk P w K mg base CX0 2 f fd ["_law_tower_here"] spAsOne := by
  refine F.ok scAsOne (fun vs H Q E h => ?_) (fun cdv A outer s H vs Q E hr h => ?_)
  · obtain ⟨a, T, rfl, _⟩ := h
    rfl
  · obtain ⟨a, T, rfl, hT, tf, q⟩ := h
    refine ⟨_, pss_cons (ps_asg (pe_tup (pa_cons (pe_call CM.ok hr (by rfl) CM.g CM.kp CM.b .nil pass0 (pa_cons (pv 0) pa_nil)) (pa_cons (pe_lst pa_nil) pa_nil)))
          (pg_tup rfl (pgs_cons (pg_name (i := 1) scAsOne.nd rfl (.inr rfl)) (pgs_cons (pg_name (i := 2) scAsOne.nd rfl (.inl rfl)) pgs_nil))))
      (pss_cons (ps_for PassesOwn.never rfl (pi_enum (by rfl) me (pa_cons (pv 1) pa_nil)) (pg_tup rfl (pgs_cons (pg_name (i := 3) scAsOne.nd rfl (.inr rfl)) (pgs_cons (pg_name (i := 4) scAsOne.nd rfl (.inr rfl)) pgs_nil)))
        (pss_one (ps_expr (pe_bm PySem.F.plainAttrs_list PySem.F.slot_list_extend PySem.F.type_list_extend mt_extend (pv 2) (pa_cons
            (pe_lc (own := [("_law_y", 5)]) (g := gName 5) (te := tTup (tCons (tVar 3) (tCons (tVar 5) tNil))) (tt := tB (tCall spLater [] E0 (tCons (tVar 0) (tCons (tVar 4) (tCons (tOp (rIxL K) (tVar 1) (tVar 5)) tNil))))) rfl scAsOne.nd
              (pi_range1 (by rfl) mr (pa_cons (pe_callB call_len_seq (by rfl) ml PySem.boot_len (pa_cons (pv 1) pa_nil)) pa_nil))
              (blkOk_by (own := [("_law_y", 5)]) (N := ["_law_tower_here", "_law_every", "_law_found", "_law_x", "_law_mark", "_law_y"]) (sc := defScope sAsOne) (by decide +kernel))
              (fun _ _ _ _ _ => pg_name (i := 5) scAsOne.nd rfl (.inl rfl)) (fun _ _ _ _ _ => pts_one (pt_val (pe_call CL.ok hr (by rfl) CL.g CL.kp CL.b .nil pass0 (pa_cons (pv 0) (pa_cons (pv 4) (pa_cons (pe_ix ix_list (pv 1) (pv 5) (fun _ _ => rfl)) pa_nil))))))
              (fun _ _ _ _ _ => pe_tup (pa_cons (pv 3) (pa_cons (pv 5) pa_nil)))) pa_nil)))))
      (pss_one (ps_ret (pe_tup (pa_cons (pe_callB call_len_seq (by rfl) ml PySem.boot_len (pa_cons (pv 1) pa_nil)) (pa_cons (pe_callTy call_tuple_of (by rfl) mt rfl (pa_cons (pe_callB (cr_sortR hr.units) (by rfl) ms rfl (pa_cons (pv 2) pa_nil)) pa_nil)) pa_nil)))))), ?_⟩
    refine ⟨.ref a, rfl, a, T, rfl, hT, fun L hL => (tf.lots L hL).2.2, tf.len, fun H1 e ts s1 he hts => ?_⟩
    refine ⟨Nat.zero_le _, fun fA nf => ⟨by show 2 ≤ sizeLine; decide, fun T0 nT => ?_⟩⟩
    have sB : Same H1 (upd (upd H1 fA (.lst [])) T0 (.tup [.ref e, .ref fA])) := Same.trans (same_upd nf) (same_upd nT)
    have hfA0 : (upd (upd H1 fA (.lst [])) T0 (.tup [.ref e, .ref fA])) fA = some (.lst (([] : List Addr).map V.ref)) := same_upd nT _ _ upd_same
    refine ⟨T0, [.ref e, .ref fA], rfl, .inl (.inl upd_same), rfl, .ref e, [.ref fA], rfl, .ref fA, [], rfl, rfl, ?_⟩
    have he2 := sB _ _ he
    have hts2 := hts.ts (.of sB)
    have s2 := Same.trans s1 sB
    have nf0 : H fA = none := Same.free s1 nf
    have hne : e ≠ fA := ne_of_none he nf
    generalize upd (upd H1 fA (.lst [])) T0 (.tup [.ref e, .ref fA]) = H2 at he2 hts2 s2 hfA0
    clear sB nT nf s1 he hts
    generalize hev : amG T [[]] = ev at hts2 q
    have hl := hts2.len
    have h9 : ev.length ≤ 9 := by
      rw [← hev, len_amG]
      exact tf.prod
    have hw : ∀ m ∈ ev, MarkT T m := fun m hm => by
      rw [← hev] at hm
      obtain ⟨m0, h0, y, hy, rfl⟩ := (mem_amG _ _ _).mp hm
      have h0 : m0 = [] := by simpa using h0
      subst h0
      exact hy
    refine ⟨.ref e, rfl, e, ts.map V.ref, rfl, .inl (.inl he2), ?_⟩
    refine for_it (walk_enum (xs := ts.map V.ref)) (fun i σ H' => ∃ y3 y4, σ = [some (.ref a), some (.ref e), some (.ref fA), y3, y4, none] ∧ Same H H' ∧ H' e = some (.lst (ts.map V.ref)) ∧ RowsAt H' ts ev ∧ ∃ us : List Addr, H' fA = some (.lst (us.map V.ref)) ∧ PairsAt H' us (prAll T ev i))
      ⟨none, none, rfl, s2, he2, hts2, [], hfA0, .nil⟩ ?_ ?_ ?_
    · rintro i σ H' hi ⟨_, _, rfl, _, he', _⟩
      exact .inl (.inl he')
    · rintro i x σ H3 H4 hi ⟨y3, y4, rfl, s3, he3, hts3, us, hfA3, hus⟩ ⟨T1, xx, yy, rfl, nT1, rfl, hx, hy⟩
      have hx : V.int (i : Int) = xx := Option.some.inj hx
      subst hx
      obtain ⟨t, ht, rfl⟩ := get_ref hy
      obtain ⟨m, hm, ht'⟩ := hts3.get ht
      have sT : Same H3 (upd H3 T1 (.tup [.int (i : Int), .ref t])) := same_upd nT1
      refine ⟨T1, [.int (i : Int), .ref t], rfl, .inl (.inl upd_same), rfl, .int (i : Int), [.ref t], rfl, .ref t, [], rfl, rfl, ?_⟩
      have he4 := sT _ _ he3
      have hfA4 := sT _ _ hfA3
      have ht4 := sT _ _ ht'
      have hts4 := hts3.ts (.of sT)
      have hus4 := hus.same sT
      have s4 := Same.trans s3 sT
      generalize upd H3 T1 (.tup [.int (i : Int), .ref t]) = H4 at he4 hfA4 ht4 hts4 hus4 s4
      refine ⟨.ref fA, rfl, .inl ⟨rfl, _, .inl (.inl hfA4)⟩, .ref e, rfl, e, _, rfl, .inl (.inl (.inl he4)), _, rfl, by rw [List.length_map, hl]; omega, by rw [List.length_map, hl]; omega, fun D nD => ?_⟩
      refine lc_range (lo := 0) (n := (ts.map V.ref).length) (fun j H' => Same H4 H' ∧ ∃ td : List Addr, H' D = some (.lst (td.map V.ref)) ∧ PairsAt H' td (prRow T ev i j)) ⟨same_upd nD, [], upd_same, .nil⟩ ?_ ?_
      · rintro j H5 hj ⟨s5, td, hD, htd⟩
        rw [List.length_map, hl] at hj
        have ej : (0 : Int) + (j : Int) = (j : Int) := by omega
        rw [ej]
        have hj2 : ts[j]? = some (ts[j]'(by omega)) := List.getElem?_eq_getElem _
        generalize ts[j]'(by omega) = t2 at hj2
        obtain ⟨m2, hm2, ht2⟩ := hts4.get hj2
        have lm := mark_len (hw m (List.mem_of_getElem? hm))
        have lm2 := mark_len (hw m2 (List.mem_of_getElem? hm2))
        refine ⟨rfl, .ref a, rfl, .ref t, rfl, .ref e, rfl, iV j, rfl, e, _, j, .ref t2, rfl, rfl, .inl (.inl (s5 _ _ he4)), atI_nat (by rw [List.getElem?_map, hj2]; rfl), ?_⟩
        refine ⟨a, t, t2, T, m, m2, rfl, hT.same (Same.trans s4 s5), s5 _ _ ht4, s5 _ _ ht2, lm, lm2, fun H6 s6 => ⟨_, rfl, ?_⟩⟩
        have eg : latT T m m2 = latT T (ev.getD i []) (ev.getD j []) := by
          rw [List.getD_eq_getElem?_getD, List.getD_eq_getElem?_getD, hm, hm2]
          rfl
        rw [eg]
        unfold prRow
        rw [List.range_succ, List.filter_append, List.map_append]
        refine ite2 (fun c => ?_) (fun c => ?_)
        · have e1 : [j].filter (fun y => latT T (ev.getD i []) (ev.getD y [])) = [j] := by rw [List.filter_cons, if_pos c, List.filter_nil]
          rw [e1]
          refine ⟨.int (i : Int), rfl, iV j, rfl, by show 2 ≤ sizeLine; decide, fun p np => ?_⟩
          have s7 : Same H6 (upd H6 p (.tup [.int (i : Int), iV j])) := same_upd np
          have hD7 := s7 _ _ (s6 _ _ hD)
          refine ⟨_, hD7, ?_, Same.new (Same.trans s5 (Same.trans s6 s7)) nD, td ++ [p], ?_, ?_⟩
          · have h1 := prRow_len T ev i j
            have h2 := pairs_len htd
            rw [List.length_map]
            exact sl_lt (by omega)
          · rw [upd_same, List.map_append]; rfl
          · exact (((htd.same s6).same s7).snoc (p := (i, j)) upd_same).ts (TSame.upd hD7 fun _ z => nomatch z)
        · have e1 : [j].filter (fun y => latT T (ev.getD i []) (ev.getD y [])) = [] := by rw [List.filter_cons, if_neg c, List.filter_nil]
          rw [e1, List.map_nil, List.append_nil]
          exact ⟨Same.trans s5 s6, td, s6 _ _ hD, htd.same s6⟩
      · rintro H5 ⟨s5, td, hD, htd⟩
        rw [List.length_map, hl] at htd
        have hfA5 := s5 _ _ hfA4
        have l1 := pairs_len hus
        have l2 := pairs_len htd
        have l3 := prAll_len T ev i
        have l4 := prRow_len T ev i ev.length
        have hiE : i < ev.length := (List.getElem?_eq_some_iff.mp hm).1
        have l5 : i * ev.length ≤ 9 * 9 := Nat.mul_le_mul (by omega) h9
        refine ⟨fA, D, _, _, rfl, rfl, hfA5, hD, by rw [List.length_map, List.length_map]; exact sl_le (by omega), ?_⟩
        have tsm : TSame H5 (upd H5 fA (.lst (us.map V.ref ++ td.map V.ref))) := TSame.upd hfA5 fun _ z => nomatch z
        refine ⟨some (.int (i : Int)), some (.ref t), rfl, Same.new (Same.trans s4 s5) nf0, ?_, (hts4.ts (.of s5)).ts tsm, us ++ td, ?_, ?_⟩
        · rw [upd_ne hne]; exact s5 _ _ he4
        · rw [upd_same, List.map_append]
        · rw [prAll_next]
          exact ((hus4.same s5).ts tsm).app (htd.ts tsm)
    · rintro σ H' ⟨y3, y4, rfl, s3, he3, hts3, us, hfA3, hus⟩
      rw [List.length_map, hl] at hus
      refine ⟨.ref e, rfl, e, _, rfl, .inl (.inl (.inl he3)), ?_⟩
      refine tc_i ?_
      refine rd_sorted (K := K) (il := 2) rfl hfA3 hus fun H5 p vs qs s5 hperm hp hvs => ⟨by show 2 ≤ sizeLine; decide, fun p2 np2 => ?_⟩
      have s6 : Same H5 (upd H5 p2 (.tup [.int ((ts.map V.ref).length : Int), .ref p])) := same_upd np2
      have ha1 : AsOne T (ev.length, qs) ev := by
        refine ⟨rfl, by rw [← hev]; exact nodup_amG _ _ (by simp), fun x => ⟨hw x, fun h => ?_⟩, fun x y => ?_⟩
        · rw [← hev, mem_amG]
          exact ⟨[], by simp, x, h, rfl⟩
        · rw [← mem_prAll (T := T)]
          exact hperm.mem_iff
      refine q _ p2 (ev.length, qs) (Same.trans s3 (Same.trans s5 s6)) ⟨p, vs, ?_, s6 _ _ hp, hvs.same s6⟩ ha1 ⟨ha1.ok fun L hL => ⟨(tf.lots L hL).1, (tf.lots L hL).2.1⟩, h9, ?_⟩
      · rw [upd_same, List.length_map, hl]
      · have l3 := prAll_len T ev ev.length
        have l5 : ev.length * ev.length ≤ 9 * 9 := Nat.mul_le_mul h9 h9
        show qs.length ≤ 1000
        rw [hperm.length_eq]
        omega
end
end K9

set_option Elab.async false
set_option linter.all false
set_option maxRecDepth 100000
namespace K9
open PySem PySem.Spec PyProof.Rows L2
theorem bit01 (c : Prop) [Decidable c] : (-(2 ^ 64) : Int) < (if c then 1 else 0) ∧ (if c then (1 : Int) else 0) < 2 ^ 64 := by
  split <;> decide
/-! ### the pot -/
def PotAt (H : Hp) (p : Addr) (c : Nat) : Prop := ∃ p0 p1 p2 : Int, H p = some (.lst [.int p0, .int p1, .int p2]) ∧ 0 ≤ p1 ∧ p1 < 2305843009213693951 ∧ 0 ≤ p2 ∧ p2 ≤ c
section
variable {P : Program} {w : World} {K : PySem.W.Frag} {mg : Str → Option Value} {base : Heap}
def spPot (K : PySem.W.Frag) : Sp := fun vs H Q _ => ∃ (a : Addr) (ns : List Int) (k : Nat), vs = [.ref a, iV k] ∧ SqL K H a (ns.map V.int) ∧ k ≤ 1 ∧ ∀ H' p, Same H H' → H p = none → PotAt H' p 0 → Q (.ref p) H'
theorem scPot : FnScope ["_law_script", "_law_k", "_law_cell", "_law_own"] ["_law_script", "_law_k"] (defScope sPot) := ⟨rfl, rfl, rfl, by decide +kernel, rfl, by decide +kernel, by decide +kernel⟩
theorem ok_pot {f : Addr} {fd : FuncData} {k : Nat} (F : Fun K "_law_pot" "_law_pot" sPot f fd) (ml : mg "len" = none) (ma : mg "abs" = none) (mi : mg "int" = none) : FnOk P w K mg base CX0 (k + 1) f fd ["_law_script", "_law_k"] (spPot K) := by
  refine F.ok scPot (fun vs H Q E h => ?_) (fun cdv A outer s H vs Q E hr h => ?_)
  · obtain ⟨a, ns, k, rfl, _⟩ := h
    rfl
  · obtain ⟨a, ns, k, rfl, hS, hk, q⟩ := h
    refine ⟨_, pss_cons (ps_set (i := 2) scPot.nd rfl (.inl rfl) (pe_ifExp (pt_cmp (pc_lt (pv 1) (pe_callB call_len_seq (by rfl) ml PySem.boot_len (pa_cons (pv 0) pa_nil)))) (pe_ix ix_list (pv 0) (pv 1) (fun _ _ => rfl)) (pe_op op_add (pe_op op_mul pe_int (pv 1)) pe_int)))
      (pss_cons (ps_set (i := 3) scPot.nd rfl (.inl rfl) (pe_op op_mul (pe_op op_mod (pe_callB call_abs (by rfl) ma rfl (pa_cons (pv 2) pa_nil)) (pe_op op_powB (pe_op op_powB pe_int pe_int) pe_int))
          (pe_callTy call_int1 (by rfl) mi rfl (pa_cons (pe_cmp (pc_ge (pe_callB call_abs (by rfl) ma rfl (pa_cons (pv 2) pa_nil)) (pe_op op_powB pe_int pe_int))) pa_nil))))
      (pss_one (ps_ret (pe_lst (pa_cons (pv 3) (pa_cons (pe_op op_mod (pe_op op_add (pe_op op_add (pe_op op_mul (pe_op op_mod (pv 2) pe_int) pe_int) (pe_op op_mul (pe_op op_mul pe_int (pv 1)) (pv 1))) pe_int) pe_int) (pa_cons pe_int pa_nil))))))), ?_⟩
    have hk64 : (-(2 ^ 64) : Int) < (k : Int) ∧ (k : Int) < 2 ^ 64 := by omega
    refine ⟨iV k, rfl, .ref a, rfl, a, _, rfl, .inl hS, _, _, rfl, rfl, _, rfl, ?_⟩
    refine ite2 (fun c => ?_) (fun c => ?_)
    · have c : k < ns.length := by
        have := of_decide_eq_true c
        rw [List.length_map] at this
        omega
      refine ⟨.ref a, rfl, iV k, rfl, a, _, k, .int ns[k], rfl, rfl, hS, atI_nat (by rw [List.getElem?_map, List.getElem?_eq_getElem c]; rfl), ?_⟩
      generalize ns[k] = cell
      refine ⟨.int cell, rfl, cell, rfl, 10, 60, rfl, rfl, ⟨by decide, by decide +kernel⟩, _, 5, rfl, rfl, ⟨by decide, by decide +kernel⟩, _, _, rfl, rfl, Int.pow_pos (Int.pow_pos (by decide)), .int cell, rfl, cell, rfl, 10, 18, rfl, rfl, ⟨by decide, by decide +kernel⟩, _, _, rfl, rfl, .inr ⟨_, rfl, _, _, rfl, rfl, .inr (bit01 _), ?_⟩⟩
      refine ⟨_, rfl, .int cell, rfl, cell, _, rfl, rfl, (by decide : (0 : Int) < 2305843009213693951), _, _, rfl, rfl, .inr (by decide), iV k, rfl, _, k, rfl, rfl, .inl (by decide), iV k, rfl, _, k, rfl, rfl, .inr hk64, _, _, rfl, rfl, _, _, rfl, rfl, _, _, rfl, rfl, (by decide : (0 : Int) < 2305843009213693921), by show 3 ≤ sizeLine; decide, fun p np => ?_⟩
      refine q _ p (same_upd np) np ⟨_, _, 0, upd_same, Int.emod_nonneg _ (by decide), ?_, by decide, by decide⟩
      exact Int.lt_trans (Int.emod_lt_of_pos _ (by decide)) (by decide)
    · refine ⟨iV k, rfl, 29, k, rfl, rfl, .inl (by decide), _, 8, rfl, rfl, ?_⟩
      dsimp only
      generalize (29 : Int) * (k : Int) + 8 = cell
      refine ⟨.int cell, rfl, cell, rfl, 10, 60, rfl, rfl, ⟨by decide, by decide +kernel⟩, _, 5, rfl, rfl, ⟨by decide, by decide +kernel⟩, _, _, rfl, rfl, Int.pow_pos (Int.pow_pos (by decide)), .int cell, rfl, cell, rfl, 10, 18, rfl, rfl, ⟨by decide, by decide +kernel⟩, _, _, rfl, rfl, .inr ⟨_, rfl, _, _, rfl, rfl, .inr (bit01 _), ?_⟩⟩
      refine ⟨_, rfl, .int cell, rfl, cell, _, rfl, rfl, (by decide : (0 : Int) < 2305843009213693951), _, _, rfl, rfl, .inr (by decide), iV k, rfl, _, k, rfl, rfl, .inl (by decide), iV k, rfl, _, k, rfl, rfl, .inr hk64, _, _, rfl, rfl, _, _, rfl, rfl, _, _, rfl, rfl, (by decide : (0 : Int) < 2305843009213693921), by show 3 ≤ sizeLine; decide, fun p np => ?_⟩
      refine q _ p (same_upd np) np ⟨_, _, 0, upd_same, Int.emod_nonneg _ (by decide), ?_, by decide, by decide⟩
      exact Int.lt_trans (Int.emod_lt_of_pos _ (by decide)) (by decide)
/-! ### taking from the pot -/
def primes : List Int := [2147483647, 2147483629, 2147483587, 2147483579, 2147483563]
theorem primes_at (j : Nat) (h : j < 5) : ∃ v : Int, (primes.map V.int)[j]? = some (.int v) ∧ 0 < v ∧ v < 2 ^ 31 := by
  match j, h with
  | 0, _ => exact ⟨_, rfl, by decide, by decide⟩
  | 1, _ => exact ⟨_, rfl, by decide, by decide⟩
  | 2, _ => exact ⟨_, rfl, by decide, by decide⟩
  | 3, _ => exact ⟨_, rfl, by decide, by decide⟩
  | 4, _ => exact ⟨_, rfl, by decide, by decide⟩
def spTake : Sp := fun vs H Q _ => ∃ (p : Addr) (u : Int) (c : Nat), vs = [.ref p, .int u] ∧ 0 < u ∧ u < 1073741824 ∧ PotAt H p c ∧ c ≤ 1000000 ∧ ∀ H' (d : Int), But [p] H H' → PotAt H' p (c + 1) → 0 ≤ d → d < u → Q (.int d) H'
theorem scTake : FnScope ["_law_pot_here", "_law_upto", "_law_digit", "_law_prime", "_law_mixed"] ["_law_pot_here", "_law_upto"] (defScope sTake) := ⟨rfl, rfl, rfl, by decide +kernel, rfl, by decide +kernel, by decide +kernel⟩
theorem ok_take {f : Addr} {fd : FuncData} {k : Nat} (F : Fun K "_law_take" "_law_take" sTake f fd) : FnOk P w K mg base CX0 (k + 1) f fd ["_law_pot_here", "_law_upto"] spTake := by
  refine F.ok scTake (fun vs H Q E h => ?_) (fun cdv A outer s H vs Q E hr h => ?_)
  · obtain ⟨p, u, c, rfl, _⟩ := h
    rfl
  · obtain ⟨p, u, c, rfl, hu0, hu1, ⟨p0, p1, p2, hp, h10, h11, h20, h21⟩, hc, q⟩ := h
    refine ⟨_, pss_cons (ps_if (pt_cmp (pc_gt (pe_ix ix_list (pv 0) pe_int (fun _ _ => rfl)) pe_int))
        (pss_cons (ps_set (i := 2) scTake.nd rfl (.inl rfl) (pe_op op_mod (pe_ix ix_list (pv 0) pe_int (fun _ _ => rfl)) (pv 1)))
        (pss_cons (ps_asg (pe_op op_fdiv (pe_ix ix_list (pv 0) pe_int (fun _ _ => rfl)) (pv 1)) (pg_sub (pv 0) pe_int set_list))
        (pss_one (ps_ret (pv 2))))) pss_nil)
      (pss_cons (ps_asg (pe_op op_add (pe_ix ix_list (pv 0) pe_int (fun _ _ => rfl)) pe_int) (pg_sub (pv 0) pe_int set_list))
      (pss_cons (ps_set (i := 3) scTake.nd rfl (.inl rfl) (pe_ix ix_list (pe_lst (pa_cons pe_int (pa_cons pe_int (pa_cons pe_int (pa_cons pe_int (pa_cons pe_int pa_nil)))))) (pe_op op_mod (pe_ix ix_list (pv 0) pe_int (fun _ _ => rfl)) pe_int) (fun _ _ => rfl)))
      (pss_cons (ps_set (i := 4) scTake.nd rfl (.inl rfl) (pe_op op_mod (pe_op op_powB (pe_op op_add (pe_op op_add (pe_ix ix_list (pv 0) pe_int (fun _ _ => rfl)) (pe_op op_mul (pe_op op_mul pe_int (pe_ix ix_list (pv 0) pe_int (fun _ _ => rfl))) (pe_ix ix_list (pv 0) pe_int (fun _ _ => rfl)))) pe_int) pe_int) (pv 3)))
      (pss_one (ps_ret (pe_op op_mod (pe_op op_fdiv (pe_op op_mod (pe_op op_mul (pv 4) (pe_op op_add (pe_op op_mod (pv 4) pe_int) (pe_op op_mul pe_int (pe_ix ix_list (pv 0) pe_int (fun _ _ => rfl))))) pe_int) pe_int) (pv 1))))))), ?_⟩
    refine ⟨.ref p, rfl, p, _, 0, .int p0, rfl, rfl, .inl (.inl hp), rfl, p0, 0, rfl, rfl, _, rfl, ?_⟩
    refine ite2 (fun c0 => ?_) (fun c0 => ?_)
    · refine ⟨.ref p, rfl, p, _, 0, .int p0, rfl, rfl, .inl (.inl hp), rfl, .int u, rfl, p0, u, rfl, rfl, hu0, ?_⟩
      refine ⟨.ref p, rfl, p, _, 0, .int p0, rfl, rfl, .inl (.inl hp), rfl, .int u, rfl, p0, u, rfl, rfl, ⟨hu0, hu1⟩, ?_⟩
      refine ⟨.ref p, rfl, p, _, 0, 0, rfl, rfl, hp, rfl, .int (p0 % u), rfl, ?_⟩
      exact q _ _ ((But.refl _ _).upd (by simp)) ⟨p0 / u, p1, p2, upd_same, h10, h11, h20, by omega⟩ (Int.emod_nonneg _ (by omega)) (Int.emod_lt_of_pos _ hu0)
    · refine ⟨.ref p, rfl, p, _, 2, .int p2, rfl, rfl, .inl (.inl hp), rfl, p2, 1, rfl, rfl, ?_⟩
      refine ⟨.ref p, rfl, p, _, 2, 2, rfl, rfl, hp, rfl, ?_⟩
      have b1 : But [p] H (upd H p (.lst [.int p0, .int p1, .int (p2 + 1)])) := (But.refl _ _).upd (by simp)
      have hp1 : (upd H p (.lst [.int p0, .int p1, .int (p2 + 1)])) p = some (.lst [.int p0, .int p1, .int (p2 + 1)]) := upd_same
      have hn20 : 0 ≤ p2 + 1 := by omega
      have hn21 : p2 + 1 ≤ (c + 1 : Nat) := by omega
      show tSeq _ _ _ _ (upd H p (.lst [.int p0, .int p1, .int (p2 + 1)]))
      generalize upd H p (.lst [.int p0, .int p1, .int (p2 + 1)]) = H1 at b1 hp1
      generalize p2 + 1 = n2 at hp1 hn20 hn21
      have hj : n2 % 5 = ((n2 % 5).toNat : Int) := (Int.toNat_of_nonneg (Int.emod_nonneg _ (by decide))).symm
      have hj5 : (n2 % 5).toNat < 5 := by
        have := Int.emod_lt_of_pos n2 (by decide : (0 : Int) < 5)
        omega
      obtain ⟨pr, hpr, hpr0, hpr1⟩ := primes_at _ hj5
      refine ⟨by show 5 ≤ sizeLine; decide, fun l nl => ?_⟩
      have s1 : Same H1 (upd H1 l (.lst (primes.map V.int))) := same_upd nl
      have hl1 : (upd H1 l (.lst (primes.map V.int))) l = some (.lst (primes.map V.int)) := upd_same
      have nl0 : l ≠ p := fun z => by
        rw [z, hp1] at nl
        cases nl
      show tOp _ _ _ _ (upd H1 l (.lst (primes.map V.int))) _
      have hp2 := s1 _ _ hp1
      have b2 : But [p] H (upd H1 l (.lst (primes.map V.int))) := b1.same s1
      generalize upd H1 l (.lst (primes.map V.int)) = H2 at hl1 hp2 b2
      refine ⟨.ref p, rfl, p, _, 2, .int n2, rfl, rfl, .inl (.inl hp2), rfl, n2, 5, rfl, rfl, (by decide : (0 : Int) < 5), ?_⟩
      refine ⟨l, _, n2 % 5, .int pr, rfl, rfl, .inl (.inl hl1), (by rw [hj]; exact atI_nat hpr), ?_⟩
      have hn2 : n2 ≤ 1000001 := by omega
      have z1 : 0 ≤ 65537 * n2 := by omega
      have z2 : 65537 * n2 ≤ 65537 * 1000001 := by omega
      have z3 : 65537 * n2 * n2 ≤ 65537 * 1000001 * 1000001 := Int.mul_le_mul z2 hn2 hn20 (by decide)
      have z4 : 0 ≤ 65537 * n2 * n2 := Int.mul_nonneg z1 hn20
      have hpw : CPowB (p1 + 65537 * n2 * n2 + 29) 3 := by
        refine ⟨by decide, ?_⟩
        have h1 : (p1 + 65537 * n2 * n2 + 29).natAbs < 2 ^ 63 := by omega
        have h2 := PyProof.Rows.intBits_le h1
        have h3 : (2 : Int) ^ 27 = 134217728 := by decide
        rw [h3]
        omega
      have hsm : (-(2 ^ 64) : Int) < n2 ∧ n2 < 2 ^ 64 := by omega
      refine ⟨.ref p, rfl, p, _, 1, .int p1, rfl, rfl, .inl (.inl hp2), rfl, .ref p, rfl, p, _, 2, .int n2, rfl, rfl, .inl (.inl hp2), rfl, 65537, n2, rfl, rfl, .inl (by decide), .ref p, rfl, p, _, 2, .int n2, rfl, rfl, .inl (.inl hp2), rfl, 65537 * n2, n2, rfl, rfl, .inr hsm, p1, _, rfl, rfl, _, 29, rfl, rfl, _, 3, rfl, rfl, hpw, .int pr, rfl, _, pr, rfl, rfl, hpr0, ?_⟩
      have m0 : 0 ≤ (p1 + 65537 * n2 * n2 + 29) ^ (3 : Int).toNat % pr := Int.emod_nonneg _ (by omega)
      have m1 : (p1 + 65537 * n2 * n2 + 29) ^ (3 : Int).toNat % pr < pr := Int.emod_lt_of_pos _ hpr0
      generalize (p1 + 65537 * n2 * n2 + 29) ^ (3 : Int).toNat = X at m0 m1 ⊢
      refine gN_i ?_
      dsimp only
      generalize X % pr = mx at m0 m1 ⊢
      refine ⟨.int mx, rfl, .int mx, rfl, mx, 10007, rfl, rfl, (by decide : (0 : Int) < 10007), .ref p, rfl, p, _, 2, .int n2, rfl, rfl, .inl (.inl hp2), rfl, 97, n2, rfl, rfl, .inl (by decide), _, _, rfl, rfl, mx, _, rfl, rfl, .inl ⟨by omega, by omega⟩, _, 2305843009213693907, rfl, rfl, (by decide : (0 : Int) < 2305843009213693907), _, 97, rfl, rfl, ⟨by decide, by decide⟩, .int u, rfl, _, u, rfl, rfl, hu0, ?_⟩
      exact q _ _ b2 ⟨p0, p1, n2, hp2, h10, h11, hn20, hn21⟩ (Int.emod_nonneg _ (by omega)) (Int.emod_lt_of_pos _ hu0)
end
end K9

set_option Elab.async false
set_option linter.all false
set_option maxRecDepth 100000
namespace K9
open PySem PySem.Spec PyProof.Rows L2
theorem ps_dead {X : Cx} {st : Stmt} : PS X st (fun _ _ _ => False) := ⟨fun _ _ _ _ _ _ h => h.elim⟩
theorem but_free {H H1 : Hp} {p q : Addr} {o : HO} (b : But [p] H H1) (hp : H1 p = some o) (hq : H1 q = none) : H q = none := by
  cases e : H q with
  | none => rfl
  | some u =>
    have hne : q ∉ [p] := fun z => by
      have z : q = p := by simpa using z
      rw [z, hp] at hq
      cases hq
    rw [b q u hne e] at hq
    cases hq
theorem but_ts {H H1 : Hp} {p : Addr} {xs : List V} (b : But [p] H H1) (hp : H p = some (.lst xs)) : TSame H H1 := fun c ys e => b c _ (fun z => by
  have z : c = p := by simpa using z
  rw [z, hp] at e
  cases e) e
theorem PotAt.same {H H' : Hp} {p : Addr} {c : Nat} (h : PotAt H p c) (s : Same H H') : PotAt H' p c :=
  let ⟨a, b, d, h1, h2⟩ := h
  ⟨a, b, d, s _ _ h1, h2⟩
theorem PotAt.up {H : Hp} {p : Addr} {c d : Nat} (h : PotAt H p c) (l : c ≤ d) : PotAt H p d :=
  let ⟨a, b, e, h1, h2, h3, h4, h5⟩ := h
  ⟨a, b, e, h1, h2, h3, h4, by omega⟩
theorem PotAt.ne {H : Hp} {p q : Addr} {c : Nat} {o : HO} (h : PotAt H p c) (hq : q ≠ p) : PotAt (L2.upd H q o) p c :=
  let ⟨a, b, e, h1, h2⟩ := h
  ⟨a, b, e, by rw [upd_ne hq.symm]; exact h1, h2⟩
structure PIn (m x y : Nat) (ps : List (Nat × Nat)) : Prop where
  at_ : ∀ p ∈ ps, p.1 < m ∧ p.2 < m ∧ ((p.2 < p.1 ∧ (p.1 < x ∨ (p.1 = x ∧ p.2 < y))) ∨ (p.1 < p.2 ∧ (p.2 < x ∨ (p.2 = x ∧ p.1 < y))))
  one : ∀ p ∈ ps, (p.2, p.1) ∉ ps
  len : ps.length ≤ 5 * x + y
theorem PIn.row {m x : Nat} {ps : List (Nat × Nat)} (h : PIn m x x ps) (hx : x ≤ 5) : PIn m (x + 1) 0 ps := by
  refine ⟨fun p hp => ?_, h.one, ?_⟩
  · have := h.at_ p hp
    omega
  · have := h.len
    omega
theorem PIn.skip {m x y : Nat} {ps : List (Nat × Nat)} (h : PIn m x y ps) : PIn m x (y + 1) ps := by
  refine ⟨fun p hp => ?_, h.one, ?_⟩
  · have := h.at_ p hp
    omega
  · have := h.len
    omega
theorem PIn.add {m x y : Nat} {ps : List (Nat × Nat)} (h : PIn m x y ps) (hy : y < x) (hx : x < m) {e : Nat × Nat} (he : e = (x, y) ∨ e = (y, x)) : PIn m x (y + 1) (ps ++ [e]) := by
  have h1 : e.1 < m ∧ e.2 < m ∧ ((e.1 = x ∧ e.2 = y) ∨ (e.1 = y ∧ e.2 = x)) := by
    rcases he with z | z
    · subst z; exact ⟨hx, by show y < m; omega, .inl ⟨rfl, rfl⟩⟩
    · subst z; exact ⟨by show y < m; omega, hx, .inr ⟨rfl, rfl⟩⟩
  have hn : ∀ p ∈ ps, ¬ (p.2 = e.1 ∧ p.1 = e.2) := fun p hp => by
    have := h.at_ p hp
    omega
  refine ⟨fun p hp => ?_, fun p hp hq => ?_, ?_⟩
  · rcases List.mem_append.mp hp with z | z
    · have := h.at_ p z
      omega
    · have z : p = e := by simpa using z
      subst z
      omega
  · rcases List.mem_append.mp hp with z | z <;> rcases List.mem_append.mp hq with y1 | y1
    · exact h.one p z y1
    · have y1 : (p.2, p.1) = e := by simpa using y1
      exact hn p z ⟨by rw [← y1], by rw [← y1]⟩
    · have z : p = e := by simpa using z
      subst z
      have := hn _ y1
      exact this ⟨rfl, rfl⟩
    · have z : p = e := by simpa using z
      have y1 : (p.2, p.1) = e := by simpa using y1
      rw [← z] at y1
      have := congrArg Prod.fst y1
      have t : p.2 = p.1 := this
      rw [z] at t
      omega
  · have := h.len
    rw [List.length_append]
    simp
    omega
theorem and_dead {i j : Nat} {σ : L2.St} {D : Ends} {H : Hp} {a b x y : Int} (hi : σ[i]? = some (some (.int a))) (hj : σ[j]? = some (some (.int b))) (hb : ¬ b > y) (h : D.nx σ H) :
    tIfS (tAnd (tB (tEqI (tVar i) (tC (.int x)))) (tB (tGt (tVar j) (tC (.int y))))) (fun _ _ _ => False) tNext D σ H := by
  refine ⟨.int a, hi, a, x, rfl, rfl, _, rfl, ?_⟩
  refine ite2 (fun c => ?_) (fun c => ?_)
  · refine ⟨.int b, hj, b, y, rfl, rfl, _, rfl, ?_⟩
    exact ite2 (fun z => absurd (of_decide_eq_true z) hb) (fun _ => h)
  · exact ite2 (fun z => absurd z (by decide)) (fun _ => h)
theorem side_i {σ : L2.St} {H : Hp} {Q : VK} {p : Addr} {way : Int} {c : Nat} (h0 : σ[0]? = some (some (.ref p))) (h2 : σ[2]? = some (some (.int way))) (hp : PotAt H p c) (hc : c ≤ 1000000)
    (q : ∀ H' d, But [p] H H' → PotAt H' p (c + 1) → 0 ≤ d → d < 3 → Q (.int d) H') :
    tIf (tB (tGt (tVar 2) (tC (.int 2)))) (tCall spTake [] E0 (tCons (tVar 0) (tCons (tC (.int 2)) tNil))) (tCall spTake [] E0 (tCons (tVar 0) (tCons (tC (.int 3)) tNil))) σ H Q := by
  refine ⟨.int way, h2, way, 2, rfl, rfl, _, rfl, ?_⟩
  refine ite2 (fun _ => ?_) (fun _ => ?_)
  · exact ⟨.ref p, h0, p, 2, c, rfl, by decide, by decide, hp, hc, fun H' d b g d0 d2 => q H' d b g d0 (by omega)⟩
  · exact ⟨.ref p, h0, p, 3, c, rfl, by decide, by decide, hp, hc, fun H' d b g d0 d2 => q H' d b g d0 d2⟩
section
variable {P : Program} {w : World} {K : PySem.W.Frag} {mg : Str → Option Value} {base : Heap}
def spLot : Sp := fun vs H Q _ => ∃ (p : Addr) (c : Nat), vs = [.ref p, .int 4] ∧ PotAt H p c ∧ c ≤ 1000 ∧ ∀ H' a L, But [p] H H' → PotAt H' p (c + 40) → LotAt H' a L → LtOk L → 0 < L.1 → L.1 ≤ 4 → L.2.length ≤ 1000 → Q (.ref a) H'
theorem scLot : FnScope ["_law_pot_here", "_law_most", "_law_way", "_law_many", "_law_found", "_law_x", "_law_y", "_law_side"] ["_law_pot_here", "_law_most"] (defScope sLot) := ⟨rfl, rfl, rfl, by decide +kernel, rfl, by decide +kernel, by decide +kernel⟩
theorem ok_lot {f fT : Addr} {fd fdT : FuncData} (F : Fun K "_law_lot" "_law_lot" sLot f fd) (CT : Cal P w K mg base "_law_take" 1 ["_law_pot_here", "_law_upto"] spTake fT fdT) (mm : mg "min" = none) (mr : mg "range" = none) (mt : mg "tuple" = none) (ms : mg "sorted" = none) :
    FnOk P w K mg base CX0 2 f fd ["_law_pot_here", "_law_most"] spLot := by
  refine F.ok scLot (fun vs H Q E h => ?_) (fun cdv A outer s H vs Q E hr h => ?_)
  · obtain ⟨p, c, rfl, _⟩ := h
    rfl
  · obtain ⟨p, c, rfl, hp, hc, q⟩ := h
    refine ⟨_, pss_cons (ps_par3 (i := 2) (j := 3) (l := 4) rfl scLot.nd rfl rfl rfl (by decide) (by decide) (by decide) rfl rfl rfl
          (pa_cons (pe_call CT.ok hr (by rfl) CT.g CT.kp CT.b .nil pass0 (pa_cons (pv 0) (pa_cons pe_int pa_nil)))
          (pa_cons (pe_op op_add pe_int (pe_call CT.ok hr (by rfl) CT.g CT.kp CT.b .nil pass0 (pa_cons (pv 0) (pa_cons (pe_callB (call_min2 rfl) (by rfl) mm rfl (pa_cons pe_int (pa_cons (pv 1) pa_nil))) pa_nil))))
          (pa_cons (pe_lst pa_nil) pa_nil))) rfl)
      (pss_cons (ps_if (pt_cmp (pc_eqI (pv 2) pe_int)) (pss_one (ps_ret (pe_tup (pa_cons pe_int (pa_cons (pe_tup (pa_cons (pe_tup (pa_cons pe_int (pa_cons pe_int pa_nil))) (pa_cons (pe_tup (pa_cons pe_int (pa_cons pe_int pa_nil))) (pa_cons (pe_tup (pa_cons pe_int (pa_cons pe_int pa_nil))) pa_nil)))) pa_nil))))) pss_nil)
      (pss_cons (ps_if ((pw_and (pt_cmp (pc_eqI (pv 2) pe_int)) (pw_and1 (pt_cmp (pc_gt (pv 1) pe_int)))).pt) (pss_one ps_dead) pss_nil)
      (pss_cons (ps_for PassesOwn.never rfl (pi_range1 (by rfl) mr (pa_cons (pv 3) pa_nil)) (pg_name (i := 5) scLot.nd rfl (.inl rfl))
        (pss_one (ps_for PassesOwn.never rfl (pi_range1 (by rfl) mr (pa_cons (pv 5) pa_nil)) (pg_name (i := 6) scLot.nd rfl (.inl rfl))
          (pss_cons (ps_set (i := 7) scLot.nd rfl (.inl rfl) (pe_ifExp (pt_cmp (pc_gt (pv 2) pe_int)) (pe_call CT.ok hr (by rfl) CT.g CT.kp CT.b .nil pass0 (pa_cons (pv 0) (pa_cons pe_int pa_nil))) (pe_call CT.ok hr (by rfl) CT.g CT.kp CT.b .nil pass0 (pa_cons (pv 0) (pa_cons pe_int pa_nil)))))
          (pss_one (ps_expr (pe_bm PySem.F.plainAttrs_list PySem.F.slot_list_extend PySem.F.type_list_extend mt_extend (pv 4) (pa_cons
            (pe_ix ix_list (pe_lst (pa_cons (pe_lst (pa_cons (pe_tup (pa_cons (pv 5) (pa_cons (pv 6) pa_nil))) pa_nil)) (pa_cons (pe_lst (pa_cons (pe_tup (pa_cons (pv 6) (pa_cons (pv 5) pa_nil))) pa_nil)) (pa_cons (pe_lst pa_nil) pa_nil)))) (pv 7) (fun _ _ => rfl)) pa_nil))))))))
      (pss_one (ps_ret (pe_tup (pa_cons (pv 3) (pa_cons (pe_callTy call_tuple_of (by rfl) mt rfl (pa_cons (pe_callB (cr_sortR hr.units) (by rfl) ms rfl (pa_cons (pv 4) pa_nil)) pa_nil)) pa_nil)))))))), ?_⟩
    obtain ⟨z0, z1, z2, hpl, _⟩ := id hp
    refine ⟨.ref p, rfl, p, 6, c, rfl, by decide, by decide, hp, by omega, fun H1 way b1 hp1 w0 w6 => ?_⟩
    refine ⟨.ref p, rfl, .int 4, rfl, 5, 4, rfl, p, 4, c + 1, rfl, by decide, by decide, hp1, by omega, fun H2 d b2 hp2 d0 d4 => ?_⟩
    refine ⟨1, d, rfl, rfl, Nat.zero_le _, fun fA nf => ⟨_, _, _, rfl, ?_⟩⟩
    obtain ⟨m, hm⟩ : ∃ m : Nat, 1 + d = (m : Int) := ⟨(1 + d).toNat, by omega⟩
    dsimp only
    rw [hm]
    have hm1 : 1 ≤ m := by omega
    have hm4 : m ≤ 4 := by omega
    have b12 := b1.trans b2
    obtain ⟨e0, e1, e2, hpl2, _⟩ := id hp2
    have nf0 : H fA = none := but_free b12 hpl2 nf
    have hfp : fA ≠ p := (ne_of_none hpl2 nf).symm
    have s3 : Same H2 (upd H2 fA (.lst [])) := same_upd nf
    have hfA3 : (upd H2 fA (.lst [])) fA = some (.lst (([] : List Addr).map V.ref)) := upd_same
    have b3 := b12.same s3
    have hp3 := hp2.same s3
    generalize upd H2 fA (.lst []) = H3 at s3 hfA3 b3 hp3
    refine sq_i ?_
    refine ⟨.int way, rfl, way, 0, rfl, rfl, _, rfl, ?_⟩
    refine ite2 (fun _ => ?_) (fun _ => ?_)
    · refine ⟨by show 2 ≤ sizeLine; decide, fun t1 n1 => ⟨by show 2 ≤ sizeLine; decide, fun t2 n2 => ⟨by show 2 ≤ sizeLine; decide, fun t3 n3 => ⟨by show 3 ≤ sizeLine; decide, fun t4 n4 => ⟨by show 2 ≤ sizeLine; decide, fun t5 n5 => ?_⟩⟩⟩⟩⟩
      have a1 : Same H3 (upd H3 t1 (.tup [.int 0, .int 2])) := same_upd n1
      have g1 : (upd H3 t1 (.tup [.int 0, .int 2])) t1 = some (.tup [iV 0, iV 2]) := upd_same
      generalize upd H3 t1 (.tup [.int 0, .int 2]) = H4 at a1 g1 n2 n3 n4 n5 ⊢
      have a2 : Same H4 (upd H4 t2 (.tup [.int 1, .int 0])) := same_upd n2
      have g2 : (upd H4 t2 (.tup [.int 1, .int 0])) t2 = some (.tup [iV 1, iV 0]) := upd_same
      generalize upd H4 t2 (.tup [.int 1, .int 0]) = H5 at a2 g2 n3 n4 n5 ⊢
      have a3 : Same H5 (upd H5 t3 (.tup [.int 2, .int 1])) := same_upd n3
      have g3 : (upd H5 t3 (.tup [.int 2, .int 1])) t3 = some (.tup [iV 2, iV 1]) := upd_same
      generalize upd H5 t3 (.tup [.int 2, .int 1]) = H6 at a3 g3 n4 n5 ⊢
      have a4 : Same H6 (upd H6 t4 (.tup [.ref t1, .ref t2, .ref t3])) := same_upd n4
      have g4 : (upd H6 t4 (.tup [.ref t1, .ref t2, .ref t3])) t4 = some (.tup ([t1, t2, t3].map V.ref)) := upd_same
      generalize upd H6 t4 (.tup [.ref t1, .ref t2, .ref t3]) = H7 at a4 g4 n5 ⊢
      have a5 : Same H7 (upd H7 t5 (.tup [.int 3, .ref t4])) := same_upd n5
      have sAll := Same.trans a1 (Same.trans a2 (Same.trans a3 (Same.trans a4 a5)))
      refine q _ t5 (3, [(0, 2), (1, 0), (2, 1)]) (b3.same sAll) ((hp3.same sAll).up (by omega)) ⟨t4, [t1, t2, t3], upd_same, a5 _ _ g4, ?_⟩ ⟨by decide, by decide⟩ (by decide) (by decide) (by decide)
      exact .cons (a5 _ _ (a4 _ _ (a3 _ _ (a2 _ _ g1)))) (.cons (a5 _ _ (a4 _ _ (a3 _ _ g2))) (.cons (a5 _ _ (a4 _ _ g3)) .nil))
    · unfold tNext
      dsimp only
      refine sq_i ?_
      refine and_dead (i := 2) (j := 1) rfl rfl (by decide) ?_
      dsimp only
      refine sq_i ?_
      refine ⟨iV m, rfl, (m : Int), rfl, by omega, by omega, ?_⟩
      refine for_range (lo := 0) (n := m) (fun x σ H' => ∃ y5 y6 y7 ts ps, σ = [some (.ref p), some (.int 4), some (.int way), some (iV m), some (.ref fA), y5, y6, y7] ∧ But [p] H H' ∧ PotAt H' p (c + 2 + 5 * x) ∧ H' fA = some (.lst (ts.map V.ref)) ∧ PairsAt H' ts ps ∧ PIn m x 0 ps)
        ⟨none, none, none, [], [], rfl, b3, hp3, hfA3, .nil, ⟨by simp, by simp, by simp⟩⟩ ?_ ?_
      · rintro x σ H' hx ⟨y5, y6, y7, ts, ps, rfl, b4, hp4, hfA4, hps, hin⟩
        have ex : (0 : Int) + (x : Int) = (x : Int) := by omega
        rw [ex]
        refine ⟨iV x, rfl, (x : Int), rfl, by omega, by omega, ?_⟩
        refine for_range (lo := 0) (n := x) (fun y σ H' => ∃ y6 y7 ts ps, σ = [some (.ref p), some (.int 4), some (.int way), some (iV m), some (.ref fA), some (iV x), y6, y7] ∧ But [p] H H' ∧ PotAt H' p (c + 2 + 5 * x + y) ∧ H' fA = some (.lst (ts.map V.ref)) ∧ PairsAt H' ts ps ∧ PIn m x y ps)
          ⟨y6, y7, ts, ps, rfl, b4, hp4, hfA4, hps, hin⟩ ?_ ?_
        · clear hps hin hfA4 hp4 b4 ts ps
          rintro y σ H4 hy ⟨y6, y7, ts, ps, rfl, b4, hp4, hfA4, hps, hin⟩
          have ey : (0 : Int) + (y : Int) = (y : Int) := by omega
          rw [ey]
          refine gN_i ?_
          dsimp only
          refine sq_i ?_
          refine as_i ?_
          refine side_i (p := p) (way := way) (c := c + 2 + 5 * x + y) rfl rfl hp4 (by omega) fun H5 d b5 hp5 d0 d3 => ?_
          obtain ⟨k0, k1, k2, hpl4, _⟩ := id hp4
          have hfA5 := b5 fA _ (fun z => hfp (by simpa using z)) hfA4
          have hps5 := hps.ts (but_ts b5 hpl4)
          have b45 := b4.trans b5
          dsimp only
          -- found.extend
          refine ⟨.ref fA, rfl, .inl ⟨rfl, _, .inl (.inl hfA5)⟩, ?_⟩
          refine ⟨iV x, rfl, iV y, rfl, by show 2 ≤ sizeLine; decide, fun t1 n1 => ⟨by show 1 ≤ sizeLine; decide, fun l1 m1 => ⟨iV y, rfl, iV x, rfl, by show 2 ≤ sizeLine; decide, fun t2 n2 => ⟨by show 1 ≤ sizeLine; decide, fun l2 m2 => ⟨Nat.zero_le _, fun l3 m3 => ⟨by show 3 ≤ sizeLine; decide, fun lo mo => ?_⟩⟩⟩⟩⟩⟩
          have a1 : Same H5 (upd H5 t1 (.tup [iV x, iV y])) := same_upd n1
          have g1 : (upd H5 t1 (.tup [iV x, iV y])) t1 = some (.tup [iV x, iV y]) := upd_same
          generalize upd H5 t1 (.tup [iV x, iV y]) = H6 at a1 g1 m1 n2 m2 m3 mo ⊢
          have a2 : Same H6 (upd H6 l1 (.lst [.ref t1])) := same_upd m1
          have g2 : (upd H6 l1 (.lst [.ref t1])) l1 = some (.lst [.ref t1]) := upd_same
          generalize upd H6 l1 (.lst [.ref t1]) = H7 at a2 g2 n2 m2 m3 mo ⊢
          have a3 : Same H7 (upd H7 t2 (.tup [iV y, iV x])) := same_upd n2
          have g3 : (upd H7 t2 (.tup [iV y, iV x])) t2 = some (.tup [iV y, iV x]) := upd_same
          generalize upd H7 t2 (.tup [iV y, iV x]) = H8 at a3 g3 m2 m3 mo ⊢
          have a4 : Same H8 (upd H8 l2 (.lst [.ref t2])) := same_upd m2
          have g4 : (upd H8 l2 (.lst [.ref t2])) l2 = some (.lst [.ref t2]) := upd_same
          generalize upd H8 l2 (.lst [.ref t2]) = H9 at a4 g4 m3 mo ⊢
          have a5 : Same H9 (upd H9 l3 (.lst [])) := same_upd m3
          have g5 : (upd H9 l3 (.lst [])) l3 = some (.lst []) := upd_same
          generalize upd H9 l3 (.lst []) = H10 at a5 g5 mo ⊢
          have a6 : Same H10 (upd H10 lo (.lst [.ref l1, .ref l2, .ref l3])) := same_upd mo
          have g6 : (upd H10 lo (.lst [.ref l1, .ref l2, .ref l3])) lo = some (.lst [.ref l1, .ref l2, .ref l3]) := upd_same
          generalize upd H10 lo (.lst [.ref l1, .ref l2, .ref l3]) = H11 at a6 g6 ⊢
          have sAll := Same.trans a1 (Same.trans a2 (Same.trans a3 (Same.trans a4 (Same.trans a5 a6))))
          have hfA11 := sAll _ _ hfA5
          have hps11 := hps5.same sAll
          have hlen := pairs_len hps
          have hil := hin.len
          have b11 := b45.same sAll
          have hp11 := hp5.same sAll
          have fin : ∀ (zs : List Addr) (qs : List (Nat × Nat)), PairsAt H11 zs qs → PIn m x (y + 1) (ps ++ qs) → ∃ y6' y7' ts' ps', ([some (.ref p), some (.int 4), some (.int way), some (iV m), some (.ref fA), some (iV x), some (iV y), some (.int d)] : L2.St) = [some (.ref p), some (.int 4), some (.int way), some (iV m), some (.ref fA), some (iV x), y6', y7'] ∧
              But [p] H (upd H11 fA (.lst (ts.map V.ref ++ zs.map V.ref))) ∧ PotAt (upd H11 fA (.lst (ts.map V.ref ++ zs.map V.ref))) p (c + 2 + 5 * x + (y + 1)) ∧ (upd H11 fA (.lst (ts.map V.ref ++ zs.map V.ref))) fA = some (.lst (ts'.map V.ref)) ∧
              PairsAt (upd H11 fA (.lst (ts.map V.ref ++ zs.map V.ref))) ts' ps' ∧ PIn m x (y + 1) ps' := fun zs qs h1 h2 =>
            ⟨_, _, ts ++ zs, ps ++ qs, rfl, b11.new nf0, hp11.ne hfp, by rw [upd_same, List.map_append], (hps11.app h1).ts (TSame.upd hfA11 fun _ z => nomatch z), h2⟩
          have hd : d = 0 ∨ d = 1 ∨ d = 2 := by omega
          rcases hd with rfl | rfl | rfl
          · refine ⟨.int 0, rfl, lo, _, 0, .ref l1, rfl, rfl, .inl (.inl g6), rfl, fA, l1, _, _, rfl, rfl, hfA11, a6 _ _ (a5 _ _ (a4 _ _ (a3 _ _ g2))), by rw [List.length_map]; exact sl_le (by simp; omega), ?_⟩
            exact fin [t1] [(x, y)] (.cons (a6 _ _ (a5 _ _ (a4 _ _ (a3 _ _ (a2 _ _ g1))))) .nil) (hin.add hy hx (.inl rfl))
          · refine ⟨.int 1, rfl, lo, _, 1, .ref l2, rfl, rfl, .inl (.inl g6), rfl, fA, l2, _, _, rfl, rfl, hfA11, a6 _ _ (a5 _ _ g4), by rw [List.length_map]; exact sl_le (by simp; omega), ?_⟩
            exact fin [t2] [(y, x)] (.cons (a6 _ _ (a5 _ _ (a4 _ _ g3))) .nil) (hin.add hy hx (.inr rfl))
          · refine ⟨.int 2, rfl, lo, _, 2, .ref l3, rfl, rfl, .inl (.inl g6), rfl, fA, l3, _, _, rfl, rfl, hfA11, a6 _ _ g5, by rw [List.length_map]; exact sl_le (by simp; omega), ?_⟩
            exact fin [] [] .nil (by rw [List.append_nil]; exact hin.skip)
        · rintro σ H' ⟨y6, y7, ts, ps, rfl, b4, hp4, hfA4, hps, hin⟩
          exact ⟨some (iV x), y6, y7, ts, ps, rfl, b4, hp4.up (by omega), hfA4, hps, hin.row (by omega)⟩
      · rintro σ H' ⟨y5, y6, y7, ts, ps, rfl, b4, hp4, hfA4, hps, hin⟩
        refine ⟨iV m, rfl, ?_⟩
        refine tc_i ?_
        refine rd_sorted (K := K) (il := 4) rfl hfA4 hps fun H5 pp us qs s5 hperm hpp hus => ⟨by show 2 ≤ sizeLine; decide, fun p2 np2 => ?_⟩
        have s6 : Same H5 (upd H5 p2 (.tup [iV m, .ref pp])) := same_upd np2
        refine q _ p2 (m, qs) (b4.same (Same.trans s5 s6)) ((hp4.same (Same.trans s5 s6)).up (by omega)) ⟨pp, us, upd_same, s6 _ _ hpp, hus.same s6⟩ ⟨fun e he => ?_, fun e he => ?_⟩ hm1 hm4 ?_
        · have := hin.at_ e (hperm.mem_iff.mp he)
          exact ⟨this.1, this.2.1⟩
        · exact fun z => hin.one e (hperm.mem_iff.mp he) (hperm.mem_iff.mp z)
        · have := hin.len
          show qs.length ≤ 1000
          rw [hperm.length_eq]
          omega
end
end K9

set_option Elab.async false
set_option linter.all false
set_option maxRecDepth 100000
namespace K9
open PySem PySem.Spec PyProof.Rows L2
section
variable {P : Program} {w : World} {K : PySem.W.Frag} {mg : Str → Option Value} {base : Heap}
/-! ### a tower drawn -/
def spDrawn : Sp := fun vs H Q _ => ∃ (p : Addr) (c : Nat), vs = [.ref p] ∧ PotAt H p c ∧ c ≤ 100 ∧ ∀ H' a T, But [p] H H' → TowAt H' a T → TF T → Q (.ref a) H'
theorem scDrawn : FnScope ["_law_pot_here", "_law_found", "_law_left", "_law_k", "_law_lot_here"] ["_law_pot_here"] (defScope sDrawn) := ⟨rfl, rfl, rfl, by decide +kernel, rfl, by decide +kernel, by decide +kernel⟩
theorem ok_drawn {f fT fL : Addr} {fd fdT fdL : FuncData} (F : Fun K "_law_drawn" "_law_drawn" sDrawn f fd) (CT : Cal P w K mg base "_law_take" 1 ["_law_pot_here", "_law_upto"] spTake fT fdT) (CL : Cal P w K mg base "_law_lot" 2 ["_law_pot_here", "_law_most"] spLot fL fdL)
    (mr : mg "range" = none) (mt : mg "tuple" = none) : FnOk P w K mg base CX0 3 f fd ["_law_pot_here"] spDrawn := by
  refine F.ok scDrawn (fun vs H Q E h => ?_) (fun cdv A outer s H vs Q E hr h => ?_)
  · obtain ⟨p, c, rfl, _⟩ := h
    rfl
  · obtain ⟨p, c, rfl, hp, hc, q⟩ := h
    refine ⟨_, pss_cons (ps_par (i := 1) (j := 2) rfl scDrawn.nd rfl rfl (by decide) rfl rfl (pa_cons (pe_lst pa_nil) (pa_cons pe_int pa_nil)) rfl)
      (pss_cons (ps_for PassesOwn.never rfl (pi_range1 (by rfl) mr (pa_cons (pe_op op_add pe_int (pe_call CT.ok (hr.mono (by decide)) (by rfl) CT.g CT.kp CT.b .nil pass0 (pa_cons (pv 0) (pa_cons pe_int pa_nil)))) pa_nil)) (pg_name (i := 3) scDrawn.nd rfl (.inl rfl))
        (pss_cons (ps_set (i := 4) scDrawn.nd rfl (.inl rfl) (pe_call CL.ok hr (by rfl) CL.g CL.kp CL.b .nil pass0 (pa_cons (pv 0) (pa_cons pe_int pa_nil))))
        (pss_one (ps_if (pt_cmp (pc_le (pe_ix ix_tup (pv 4) pe_int (fun _ _ => rfl)) (pv 2)))
          (pss_cons (ps_expr (pe_bm PySem.F.plainAttrs_list PySem.F.slot_list_append PySem.F.type_list_append mt_append (pv 1) (pa_cons (pv 4) pa_nil)))
          (pss_one (ps_set (i := 2) scDrawn.nd rfl (.inl rfl) (pe_op op_fdiv (pv 2) (pe_ix ix_tup (pv 4) pe_int (fun _ _ => rfl)))))) pss_nil))))
      (pss_one (ps_ret (pe_callTy call_tuple_of (by rfl) mt rfl (pa_cons (pv 1) pa_nil))))), ?_⟩
    obtain ⟨z0, z1, z2, hpl, _⟩ := id hp
    refine ⟨Nat.zero_le _, fun fA nf => ⟨_, _, rfl, ?_⟩⟩
    have hfp : fA ≠ p := (ne_of_none hpl nf).symm
    have s1 : Same H (upd H fA (.lst [])) := same_upd nf
    have hfA1 : (upd H fA (.lst [])) fA = some (.lst (([] : List Addr).map V.ref)) := upd_same
    have hp1 := hp.same s1
    generalize upd H fA (.lst []) = H1 at s1 hfA1 hp1
    refine ⟨.ref p, rfl, p, 2, c, rfl, by decide, by decide, hp1, by omega, fun H2 d b2 hp2 d0 d2 => ?_⟩
    obtain ⟨n, hn⟩ : ∃ n : Nat, 2 + d = (n : Int) := ⟨(2 + d).toNat, by omega⟩
    obtain ⟨e0, e1, e2, hpl1, _⟩ := id hp1
    have hfA2 := b2 fA _ (fun z => hfp (by simpa using z)) hfA1
    have b12 : But [p] H H2 := (But.of s1).trans b2
    refine ⟨2, d, rfl, rfl, 2 + d, rfl, by omega, by omega, ?_⟩
    rw [hn, Int.toNat_natCast]
    have hn3 : n ≤ 3 := by omega
    refine for_range (lo := 0) (n := n) (fun i σ H' => ∃ y3 y4 left ts T, σ = [some (.ref p), some (.ref fA), some (iV left), y3, y4] ∧ But [p] H H' ∧ PotAt H' p (c + 1 + 40 * i) ∧ H' fA = some (.lst (ts.map V.ref)) ∧ Paired (fun t L => LotAt H' t L) ts T ∧
      (∀ L ∈ T, LtOk L ∧ 0 < L.1 ∧ L.1 ≤ 4) ∧ (∀ L ∈ T, L.2.length ≤ 1000) ∧ T.length ≤ i ∧ 1 ≤ left ∧ (T.map (·.1)).foldl (· * ·) 1 * left ≤ 9) ⟨none, none, 9, [], [], rfl, b12, hp2, hfA2, .nil, by simp, by simp, by simp, by decide, by decide⟩ ?_ ?_
    · rintro i σ H3 hi ⟨y3, y4, left, ts, T, rfl, b3, hp3, hfA3, hts, hT, hTs, hTl, hl1, hpr⟩
      refine ⟨.ref p, rfl, p, c + 1 + 40 * i, rfl, hp3, by omega, fun H4 a L b4 hp4 hL ok h0 h4 hlen => ?_⟩
      obtain ⟨k0, k1, k2, hpl3, _⟩ := id hp3
      have hfA4 := b4 fA _ (fun z => hfp (by simpa using z)) hfA3
      have tsm4 := but_ts b4 hpl3
      have hts4 : Paired (fun t L => LotAt H4 t L) ts T := Paired.mapP hts fun _ _ q => q.ts tsm4
      have b34 := b3.trans b4
      obtain ⟨lb, lts, hla, hla2⟩ := id hL
      refine ⟨.ref a, rfl, a, _, 0, iV L.1, rfl, rfl, .inl (.inl hla), rfl, iV left, rfl, L.1, left, rfl, rfl, _, rfl, ?_⟩
      have hl : ts.length = T.length := Paired.length hts
      refine ite2 (fun c => ?_) (fun c => ?_)
      · have c : L.1 ≤ left := by
          have := of_decide_eq_true c
          omega
        refine ⟨.ref fA, rfl, .inl ⟨rfl, _, .inl (.inl hfA4)⟩, .ref a, rfl, fA, _, .ref a, rfl, rfl, hfA4, by rw [List.length_map]; exact sl_lt (by omega), ?_⟩
        have tsm : TSame H4 (upd H4 fA (.lst (ts.map V.ref ++ [.ref a]))) := TSame.upd hfA4 fun _ z => nomatch z
        have nf0 : H fA = none := nf
        refine ⟨iV left, rfl, .ref a, rfl, a, _, 0, iV L.1, rfl, rfl, .inl (.inl (tsm _ _ hla)), rfl, left, L.1, rfl, rfl, ⟨by omega, by omega⟩, ?_⟩
        have hdiv : 1 ≤ left / L.1 := (Nat.one_le_div_iff h0).mpr c
        refine ⟨_, _, left / L.1, ts ++ [a], T ++ [L], rfl, b34.new nf0, (hp4.ne hfp).up (by omega), by rw [upd_same, List.map_append]; rfl, Paired.snoc (Paired.mapP hts4 fun _ _ q => q.ts tsm) (hL.ts tsm), fun M hM => ?_, fun M hM => ?_, by rw [List.length_append]; simp; omega, hdiv, ?_⟩
        · rcases List.mem_append.mp hM with z | z
          · exact hT M z
          · have z : M = L := by simpa using z
            subst z
            exact ⟨ok, h0, h4⟩
        · rcases List.mem_append.mp hM with z | z
          · exact hTs M z
          · have z : M = L := by simpa using z
            subst z
            exact hlen
        · rw [List.map_append, List.foldl_append]
          show (T.map (·.1)).foldl (· * ·) 1 * L.1 * (left / L.1) ≤ 9
          have h1 : L.1 * (left / L.1) ≤ left := Nat.mul_div_le left L.1
          have h2 := Nat.mul_le_mul_left ((T.map (·.1)).foldl (· * ·) 1) h1
          rw [Nat.mul_assoc]
          omega
      · exact ⟨_, _, left, ts, T, rfl, b34, hp4.up (by omega), hfA4, hts4, hT, hTs, by omega, hl1, hpr⟩
    · rintro σ H3 ⟨y3, y4, left, ts, T, rfl, b3, hp3, hfA3, hts, hT, hTs, hTl, hl1, hpr⟩
      refine ⟨.ref fA, rfl, fA, _, rfl, .inl ⟨.inl (.inl hfA3), fun l nl => ?_⟩⟩
      have s4 : Same H3 (upd H3 l (.tup (ts.map V.ref))) := same_upd nl
      refine q _ l T (b3.same s4) ⟨ts, upd_same, Paired.mapP hts fun _ _ q => q.same s4⟩ ⟨hT, hTs, by omega, ?_⟩
      have := Nat.mul_le_mul_left ((T.map (·.1)).foldl (· * ·) 1) hl1
      omega
end
end K9

set_option Elab.async false
set_option linter.all false
set_option maxRecDepth 100000
namespace K9
open PySem PySem.Spec PyProof.Rows L2
theorem shown4 {r : Int} (h0 : 0 ≤ r) (h5 : r ≤ 5) : (PyData.list ([r, r, r, r].map .int)).shown.length ≤ sizeLine := by
  have h : r = 0 ∨ r = 1 ∨ r = 2 ∨ r = 3 ∨ r = 4 ∨ r = 5 := by omega
  rcases h with rfl | rfl | rfl | rfl | rfl | rfl <;> decide +kernel
theorem log5 {r : Int} (h0 : 0 ≤ r) (h5 : r ≤ 5) : ∀ n ∈ [r, r, r, r], n.natAbs.log2 < 1920 := by
  have h : r = 0 ∨ r = 1 ∨ r = 2 ∨ r = 3 ∨ r = 4 ∨ r = 5 := by omega
  rcases h with rfl | rfl | rfl | rfl | rfl | rfl <;> decide +kernel
theorem but_fresh {H H1 H2 : Hp} {p : Addr} (s : Same H H1) (np : H p = none) (b : But [p] H1 H2) : Same H H2 := fun c u e => b c u (fun z => by
  have z : c = p := by simpa using z
  rw [z, np] at e
  cases e) (s c u e)
section
variable {P : Program} {w : World} {K : PySem.W.Frag} {mg : Str → Option Value} {base : Heap}
/-! ### one cell's tower -/
def spRight : Sp := fun vs H Q _ => ∃ (p : Addr) (c : Nat), vs = [.ref p] ∧ PotAt H p c ∧ c ≤ 100 ∧ ∀ H', But [p] H H' → Q (.bl true) H'
theorem scRight : FnScope ["_law_pot_here", "_law_tower_here", "_law_due", "_law_whole", "_law_lot_here"] ["_law_pot_here"] (defScope sRight) := ⟨rfl, rfl, rfl, by decide +kernel, rfl, by decide +kernel, by decide +kernel⟩
theorem ok_right {f fD fA fI fR fL : Addr} {fd fdD fdA fdI fdR fdL : FuncData} (F : Fun K "_law_right" "_law_right" sRight f fd) (CD : Cal P w K mg base "_law_drawn" 3 ["_law_pot_here"] spDrawn fD fdD) (CA : Cal P w K mg base "_law_as_one" 2 ["_law_tower_here"] spAsOne fA fdA)
    (CI : Cal P w K mg base "reach_in" 7 ["tower"] spReachIn fI fdI) (CR : Cal P w K mg base "reach" 5 ["lot"] spReach fR fdR) (CL : Cal P w K mg base "_law_reach" 3 ["_law_lot_here"] spReach fL fdL) (ms : mg "sum" = none) (mp : mg "repr" = none) :
    FnG P w K mg base 8 f fd ["_law_pot_here"] spRight := by
  refine fun_okG F scRight (fun vs H Q E h => ?_) (fun cdv A outer s H vs Q E hr hgd h => ?_)
  · obtain ⟨p, c, rfl, _⟩ := h
    rfl
  · obtain ⟨p, c, rfl, hp, hc, q⟩ := h
    refine ⟨_, pss_cons (ps_set (i := 1) scRight.nd rfl (.inl rfl) (pe_call CD.ok (hr.mono (by decide)) (by rfl) CD.g CD.kp CD.b .nil pass0 (pa_cons (pv 0) pa_nil)))
      (pss_cons (ps_par (i := 2) (j := 3) rfl scRight.nd rfl rfl (by decide) rfl rfl
          (pa_cons (pe_op op_add pe_int (pe_callB (cr_sum rfl) (by rfl) ms rfl (pa_cons (pe_lc (own := [("_law_lot_here", 4)]) (g := gName 4) (tt := tYes) (te := tOp (rI0 fun i j => .int (i - j)) (tCall spReach [] E0 (tCons (tVar 4) tNil)) (tC (.int 1))) rfl scRight.nd (pi_tup (pv 1))
              (blkOk_by (own := [("_law_lot_here", 4)]) (N := ["_law_pot_here", "_law_tower_here", "_law_due", "_law_whole", "_law_lot_here"]) (sc := defScope sRight) (by decide +kernel))
              (fun _ _ _ _ _ => pg_name (i := 4) scRight.nd rfl (.inl rfl)) (fun _ _ _ _ _ => pts_nil) (fun _ _ _ _ _ => pe_op op_sub (pe_call CL.ok (hr.mono (by decide)) (by rfl) CL.g CL.kp CL.b .nil pass0 (pa_cons (pv 4) pa_nil)) pe_int)) pa_nil)))
          (pa_cons (pe_call CA.ok (hr.mono (by decide)) (by rfl) CA.g CA.kp CA.b .nil pass0 (pa_cons (pv 1) pa_nil)) pa_nil)) rfl)
      (pss_one (ps_ret (pe_cmpR op_eq
        (pe_callB (call_reprL hgd hr.units) (by rfl) mp rfl (pa_cons (pe_lst (pa_cons (pe_call CI.ok hr (by rfl) CI.g CI.kp CI.b .nil pass0 (pa_cons (pv 1) pa_nil))
          (pa_cons (pe_call CR.ok (hr.mono (by decide)) (by rfl) CR.g CR.kp CR.b .nil pass0 (pa_cons (pv 3) pa_nil))
          (pa_cons (pe_call CI.ok hr (by rfl) CI.g CI.kp CI.b .nil pass0 (pa_cons (pe_tup (pa_cons (pv 3) pa_nil)) pa_nil))
          (pa_cons (pe_call CL.ok (hr.mono (by decide)) (by rfl) CL.g CL.kp CL.b .nil pass0 (pa_cons (pv 3) pa_nil)) pa_nil))))) pa_nil))
        (pe_callB (call_reprL hgd hr.units) (by rfl) mp rfl (pa_cons (pe_op op_rep (pe_lst (pa_cons (pv 2) pa_nil)) pe_int) pa_nil)) (nomark _))))), ?_⟩
    refine ⟨.ref p, rfl, p, c, rfl, hp, hc, fun H1 a T b1 hT tf => ?_⟩
    have hF : ∀ L ∈ T, LF L ∧ rho L ≤ 5 := fun L hL => by
      obtain ⟨h1, h2, h3⟩ := tf.lots L hL
      have := rho_le h1
      exact ⟨⟨h1, by omega, tf.small L hL⟩, by omega⟩
    have hsb := sum_bound tf.lots tf.len tf.prod
    obtain ⟨ts, ha, hts⟩ := id hT
    have hl : ts.length = T.length := Paired.length hts
    have hTl := tf.len
    refine ⟨.ref a, rfl, a, rfl, ⟨_, .inl (.inl ha)⟩, fun D nD => ?_⟩
    refine lc_tup (xs := ts.map V.ref) (fun i H2 => Same H1 H2 ∧ H2 D = some (.lst (((T.take i).map fun L => (rho L : Int) - 1).map V.int))) ⟨same_upd nD, upd_same⟩ ?_ ?_ ?_
    · rintro i H2 hi ⟨s2, _⟩
      exact .inl (.inl (s2 _ _ ha))
    · rintro i x H2 hx ⟨s2, hD⟩
      obtain ⟨t, ht, rfl⟩ := get_ref hx
      obtain ⟨L, hL, hLt⟩ := paired_get hts ht
      have hiT : i < T.length := (List.getElem?_eq_some_iff.mp hL).1
      obtain ⟨lf, h5⟩ := hF L (List.mem_of_getElem? hL)
      refine ⟨rfl, yesI ⟨.ref t, rfl, t, L, rfl, hLt.same s2, lf, h5, fun H5 s5 => ⟨_, 1, rfl, rfl, _, s5 _ _ hD, ?_, Same.new (Same.trans s2 s5) nD, ?_⟩⟩⟩
      · rw [List.length_map, List.length_map, List.length_take]
        exact sl_lt (by omega)
      · rw [upd_same, take_next hL, List.map_append, List.map_append]
        rfl
    · rintro H2 ⟨s2, hD⟩
      rw [List.length_map, hl, List.take_length] at hD
      refine ⟨D, _, rfl, .inl (.inl hD), 1, _, rfl, rfl, .ref a, rfl, a, T, rfl, hT.same s2, tf, fun H3 pW W s3 hW hao lfW => ⟨_, _, rfl, ?_⟩⟩
      have hrho := hao.rho fun L hL => ⟨(tf.lots L hL).1, (tf.lots L hL).2.1⟩
      dsimp only
      rw [← hrho] at hsb
      have h5 : rho W ≤ 5 := by omega
      have hT3 := (hT.same s2).same s3
      refine ⟨.ref a, rfl, a, T, rfl, hT3, hF, by omega, fun H4 s4 => ⟨.ref pW, rfl, pW, W, rfl, hW.same s4, lfW, h5, fun H5 s5 => ⟨.ref pW, rfl, by show 1 ≤ sizeLine; decide, fun t nt => ?_⟩⟩⟩
      have s6 : Same H5 (upd H5 t (.tup [.ref pW])) := same_upd nt
      have hW6 := ((hW.same s4).same s5).same s6
      refine ⟨t, [W], rfl, ⟨[pW], upd_same, .cons hW6 .nil⟩, fun L hL => ?_, by show 1 ≤ 100; decide, fun H7 s7 => ⟨.ref pW, rfl, pW, W, rfl, hW6.same s7, lfW, h5, fun H8 s8 => ⟨by show 4 ≤ sizeLine; decide, fun l nl => ?_⟩⟩⟩
      · have : L = W := by simpa using hL
        subst this
        exact ⟨lfW, h5⟩
      · have r0 : (0 : Int) ≤ (rho W : Int) := by omega
        have r5 : (rho W : Int) ≤ 5 := by omega
        have e1 : ([.int (1 + (T.map fun L => (rho L : Int) - 1).sum), iV (rho W), .int (1 + ([W].map fun L => (rho L : Int) - 1).sum), iV (rho W)] : List V) = [(rho W : Int), rho W, rho W, rho W].map V.int := by
          rw [← hrho]
          have : (1 : Int) + ([W].map fun L => (rho L : Int) - 1).sum = (rho W : Int) := by simp; omega
          rw [this]
          rfl
        have s9 : Same H8 (upd H8 l (.lst [.int (1 + (T.map fun L => (rho L : Int) - 1).sum), iV (rho W), .int (1 + ([W].map fun L => (rho L : Int) - 1).sum), iV (rho W)])) := same_upd nl
        refine ⟨l, [(rho W : Int), rho W, rho W, rho W], rfl, .inl (.inl ?_), log5 r0 r5, shown4 r0 r5, ?_⟩
        · rw [← e1]
          exact upd_same
        · refine ⟨_, rfl, by show 1 ≤ sizeLine; decide, fun l2 n2 => ⟨l2, 4, _, rfl, rfl, upd_same, by decide, by decide, by show 1 * 4 ≤ sizeLine; decide, fun l3 n3 => ?_⟩⟩
          refine ⟨l3, [(rho W : Int), rho W, rho W, rho W], rfl, .inl (.inl ?_), log5 r0 r5, shown4 r0 r5, rfl, ?_⟩
          · rw [upd_same, ← hrho]
            rfl
          · rw [decide_eq_true rfl]
            refine q _ (b1.same ?_)
            exact Same.trans s2 (Same.trans s3 (Same.trans s4 (Same.trans s5 (Same.trans s6 (Same.trans s7 (Same.trans s8 (Same.trans s9 (Same.trans (same_upd n2) (same_upd n3)))))))))
/-! ### the law -/
def spLaw (K : PySem.W.Frag) : Sp := fun vs H Q _ => ∃ (a : Addr) (ns : List Int), vs = [.ref a] ∧ SqL K H a (ns.map V.int) ∧ ns.length ≤ 63 ∧ ∀ H', Q (.bl true) H'
theorem scLaw : FnScope ["_law_script", "_law_k"] ["_law_script"] (defScope sLaw) := ⟨rfl, rfl, rfl, by decide +kernel, rfl, by decide +kernel, by decide +kernel⟩
theorem ok_law {f fR fP : Addr} {fd fdR fdP : FuncData} (F : Fun K "law" "law" sLaw f fd) (gR : FnG P w K mg base 8 fR fdR ["_law_pot_here"] spRight) (bR : Binds K fdR ["_law_pot_here"] []) (hR : mg "_law_right" = some (.ref fR)) (kR : PySem.W.keepIn K (.ref fR) = true)
    (CP : Cal P w K mg base "_law_pot" 1 ["_law_script", "_law_k"] (spPot K) fP fdP) (ma : mg "all" = none) (mr : mg "range" = none) (mx : mg "max" = none) (mn : mg "min" = none) (ml : mg "len" = none) : FnG P w K mg base 9 f fd ["_law_script"] (spLaw K) := by
  refine fun_okG F scLaw (fun vs H Q E h => ?_) (fun cdv A outer s H vs Q E hr hgd h => ?_)
  · obtain ⟨a, ns, rfl, _⟩ := h
    rfl
  · obtain ⟨a, ns, rfl, hS, hlen, q⟩ := h
    refine ⟨_, pss_one (ps_ret (pe_callB (cr_all rfl) (by rfl) ma rfl (pa_cons (pe_lc (own := [("_law_k", 1)]) (g := gName 1) (tt := tYes) (te := tCall spRight [] E0 (tCons (tCall (spPot K) [] E0 (tCons (tVar 0) (tCons (tVar 1) tNil))) tNil)) rfl scLaw.nd
          (pi_range1 (by rfl) mr (pa_cons (pe_callB (call_max2 rfl) (by rfl) mx rfl (pa_cons pe_int (pa_cons (pe_callB (call_min2 rfl) (by rfl) mn rfl (pa_cons pe_int (pa_cons (pe_callB call_len_seq (by rfl) ml PySem.boot_len (pa_cons (pv 0) pa_nil)) pa_nil))) pa_nil))) pa_nil))
          (blkOk_by (own := [("_law_k", 1)]) (N := ["_law_script", "_law_k"]) (sc := defScope sLaw) (by decide +kernel))
          (fun _ _ _ _ _ => pg_name (i := 1) scLaw.nd rfl (.inl rfl)) (fun _ _ _ _ _ => pts_nil) (fun _ _ _ _ _ => pe_callG gR hr hgd (by rfl) hR kR bR (pa_cons (pe_call CP.ok (hr.mono (by decide)) (by rfl) CP.g CP.kp CP.b .nil pass0 (pa_cons (pv 0) (pa_cons (pv 1) pa_nil))) pa_nil))) pa_nil))), ?_⟩
    refine ⟨.ref a, rfl, a, _, rfl, .inl hS, 2, ((ns.map V.int).length : Int), rfl, 1, _, rfl, _, rfl, ?_⟩
    obtain ⟨j, hj, hj2⟩ : ∃ j : Nat, (if (if ((ns.map V.int).length : Int) < 2 then ((ns.map V.int).length : Int) else 2) > 1 then (if ((ns.map V.int).length : Int) < 2 then ((ns.map V.int).length : Int) else 2) else 1) = (j : Int) ∧ j ≤ 2 := by
      generalize (ns.map V.int).length = n
      by_cases h1 : (n : Int) < 2
      · rw [if_pos h1]
        by_cases h2 : (n : Int) > 1
        · rw [if_pos h2]
          exact ⟨n, rfl, by omega⟩
        · rw [if_neg h2]
          exact ⟨1, rfl, by omega⟩
      · rw [if_neg h1]
        exact ⟨2, rfl, by omega⟩
    rw [hj, Int.toNat_natCast]
    refine ⟨by omega, by omega, fun D nD => ?_⟩
    refine lc_range (lo := 0) (n := j) (fun i H' => Same H H' ∧ H' D = some (.lst ((List.replicate i true).map V.bl))) ⟨same_upd nD, upd_same⟩ ?_ ?_
    · rintro i H1 hi ⟨s1, hD⟩
      have ei : (0 : Int) + (i : Int) = (i : Int) := by omega
      rw [ei]
      refine ⟨rfl, yesI ⟨.ref a, rfl, iV i, rfl, a, ns, i, rfl, s1.seq hS, by omega, fun H2 p s2 np hp2 => ?_⟩⟩
      refine ⟨p, 0, rfl, hp2, by decide, fun H3 b3 => ?_⟩
      have s3 : Same H1 H3 := but_fresh s2 np b3
      refine ⟨_, s3 _ _ hD, ?_, Same.new (Same.trans s1 s3) nD, ?_⟩
      · rw [List.length_map, List.length_replicate]
        exact sl_lt (by omega)
      · rw [upd_same, List.replicate_succ', List.map_append]
        rfl
    · rintro H1 ⟨s1, hD⟩
      refine ⟨D, List.replicate j true, rfl, .inl (.inl hD), ?_⟩
      have : (List.replicate j true).all id = true := by
        rw [List.all_eq_true]
        intro x hx
        rw [(List.mem_replicate.mp hx).2]
        rfl
      rw [this]
      exact q H1
end
end K9

set_option Elab.async false
set_option linter.all false
set_option maxRecDepth 100000
namespace K9
open PySem PySem.Spec PyProof.Rows L2
/-! ### what the top has left -/
theorem all_mk {l : PySem.W.OpenLaw} {w : World} {K : PySem.W.Frag} {h : Heap} {mg : Str → Option Value} {fa fLater fLevels fParts fPeel fBook fServes fReach fReaches fReachIn fPot fTake fLot fUps fRows fStays fLBook fLReach fLLater fMarks fDrawn fAsOne fRight fLaw : Addr} {tkM : Tok} (X : K.In h) (G : h.Ns mainGlobals mg) (hfa : mg "law" = some (.ref fa))
    {odLater anLater : Option Addr} {slLater : Array (Option Value)} {ocLater kVLater dcLater pmLater cdLater ctLater : Value}
    (aLater : PySem.W.nsIn K mainGlobals "later_than" = some (some (.ref fLater)))
    (lLater : K.lookup fLater = some ⟨ocLater, odLater, .func (PySem.W.fnOf "later_than" "later_than" (defArgs sLater) (defBody sLater) (defScope sLater) .none kVLater dcLater pmLater anLater cdLater ctLater), slLater⟩)
    (cLater : PySem.W.codeIn K cdLater "later_than" = true) (kLater : PySem.W.keepIn K (.ref fLater) = true)
    {odLevels anLevels : Option Addr} {slLevels : Array (Option Value)} {ocLevels kVLevels dcLevels pmLevels cdLevels ctLevels : Value}
    (aLevels : PySem.W.nsIn K mainGlobals "levels" = some (some (.ref fLevels)))
    (lLevels : K.lookup fLevels = some ⟨ocLevels, odLevels, .func (PySem.W.fnOf "levels" "levels" (defArgs sLevels) (defBody sLevels) (defScope sLevels) .none kVLevels dcLevels pmLevels anLevels cdLevels ctLevels), slLevels⟩)
    (cLevels : PySem.W.codeIn K cdLevels "levels" = true) (kLevels : PySem.W.keepIn K (.ref fLevels) = true)
    {odParts anParts : Option Addr} {slParts : Array (Option Value)} {ocParts kVParts dcParts pmParts cdParts ctParts : Value}
    (aParts : PySem.W.nsIn K mainGlobals "parts_with" = some (some (.ref fParts)))
    (lParts : K.lookup fParts = some ⟨ocParts, odParts, .func (PySem.W.fnOf "parts_with" "parts_with" (defArgs sParts) (defBody sParts) (defScope sParts) .none kVParts dcParts pmParts anParts cdParts ctParts), slParts⟩)
    (cParts : PySem.W.codeIn K cdParts "parts_with" = true) (kParts : PySem.W.keepIn K (.ref fParts) = true)
    {odPeel anPeel : Option Addr} {slPeel : Array (Option Value)} {ocPeel kVPeel dcPeel pmPeel cdPeel ctPeel : Value}
    (aPeel : PySem.W.nsIn K mainGlobals "peeled" = some (some (.ref fPeel)))
    (lPeel : K.lookup fPeel = some ⟨ocPeel, odPeel, .func (PySem.W.fnOf "peeled" "peeled" (defArgs sPeeled) (defBody sPeeled) (defScope sPeeled) .none kVPeel dcPeel pmPeel anPeel cdPeel ctPeel), slPeel⟩)
    (cPeel : PySem.W.codeIn K cdPeel "peeled" = true) (kPeel : PySem.W.keepIn K (.ref fPeel) = true)
    {odBook anBook : Option Addr} {slBook : Array (Option Value)} {ocBook kVBook dcBook pmBook cdBook ctBook : Value}
    (aBook : PySem.W.nsIn K mainGlobals "book" = some (some (.ref fBook)))
    (lBook : K.lookup fBook = some ⟨ocBook, odBook, .func (PySem.W.fnOf "book" "book" (defArgs sBook) (defBody sBook) (defScope sBook) .none kVBook dcBook pmBook anBook cdBook ctBook), slBook⟩)
    (cBook : PySem.W.codeIn K cdBook "book" = true) (kBook : PySem.W.keepIn K (.ref fBook) = true)
    {odServes anServes : Option Addr} {slServes : Array (Option Value)} {ocServes kVServes dcServes pmServes cdServes ctServes : Value}
    (aServes : PySem.W.nsIn K mainGlobals "serves" = some (some (.ref fServes)))
    (lServes : K.lookup fServes = some ⟨ocServes, odServes, .func (PySem.W.fnOf "serves" "serves" (defArgs sServes) (defBody sServes) (defScope sServes) .none kVServes dcServes pmServes anServes cdServes ctServes), slServes⟩)
    (cServes : PySem.W.codeIn K cdServes "serves" = true) (kServes : PySem.W.keepIn K (.ref fServes) = true)
    {odReach anReach : Option Addr} {slReach : Array (Option Value)} {ocReach kVReach dcReach pmReach cdReach ctReach : Value}
    (aReach : PySem.W.nsIn K mainGlobals "reach" = some (some (.ref fReach)))
    (lReach : K.lookup fReach = some ⟨ocReach, odReach, .func (PySem.W.fnOf "reach" "reach" (defArgs sReach) (defBody sReach) (defScope sReach) .none kVReach dcReach pmReach anReach cdReach ctReach), slReach⟩)
    (cReach : PySem.W.codeIn K cdReach "reach" = true) (kReach : PySem.W.keepIn K (.ref fReach) = true)
    {odReaches anReaches : Option Addr} {slReaches : Array (Option Value)} {ocReaches kVReaches dcReaches pmReaches cdReaches ctReaches : Value}
    (aReaches : PySem.W.nsIn K mainGlobals "reaches" = some (some (.ref fReaches)))
    (lReaches : K.lookup fReaches = some ⟨ocReaches, odReaches, .func (PySem.W.fnOf "reaches" "reaches" (defArgs sReaches) (defBody sReaches) (defScope sReaches) .none kVReaches dcReaches pmReaches anReaches cdReaches ctReaches), slReaches⟩)
    (cReaches : PySem.W.codeIn K cdReaches "reaches" = true) (kReaches : PySem.W.keepIn K (.ref fReaches) = true)
    {odReachIn anReachIn : Option Addr} {slReachIn : Array (Option Value)} {ocReachIn kVReachIn dcReachIn pmReachIn cdReachIn ctReachIn : Value}
    (aReachIn : PySem.W.nsIn K mainGlobals "reach_in" = some (some (.ref fReachIn)))
    (lReachIn : K.lookup fReachIn = some ⟨ocReachIn, odReachIn, .func (PySem.W.fnOf "reach_in" "reach_in" (defArgs sReachIn) (defBody sReachIn) (defScope sReachIn) .none kVReachIn dcReachIn pmReachIn anReachIn cdReachIn ctReachIn), slReachIn⟩)
    (cReachIn : PySem.W.codeIn K cdReachIn "reach_in" = true) (kReachIn : PySem.W.keepIn K (.ref fReachIn) = true)
    {odPot anPot : Option Addr} {slPot : Array (Option Value)} {ocPot kVPot dcPot pmPot cdPot ctPot : Value}
    (aPot : PySem.W.nsIn K mainGlobals "_law_pot" = some (some (.ref fPot)))
    (lPot : K.lookup fPot = some ⟨ocPot, odPot, .func (PySem.W.fnOf "_law_pot" "_law_pot" (defArgs sPot) (defBody sPot) (defScope sPot) .none kVPot dcPot pmPot anPot cdPot ctPot), slPot⟩)
    (cPot : PySem.W.codeIn K cdPot "_law_pot" = true) (kPot : PySem.W.keepIn K (.ref fPot) = true)
    {odTake anTake : Option Addr} {slTake : Array (Option Value)} {ocTake kVTake dcTake pmTake cdTake ctTake : Value}
    (aTake : PySem.W.nsIn K mainGlobals "_law_take" = some (some (.ref fTake)))
    (lTake : K.lookup fTake = some ⟨ocTake, odTake, .func (PySem.W.fnOf "_law_take" "_law_take" (defArgs sTake) (defBody sTake) (defScope sTake) .none kVTake dcTake pmTake anTake cdTake ctTake), slTake⟩)
    (cTake : PySem.W.codeIn K cdTake "_law_take" = true) (kTake : PySem.W.keepIn K (.ref fTake) = true)
    {odLot anLot : Option Addr} {slLot : Array (Option Value)} {ocLot kVLot dcLot pmLot cdLot ctLot : Value}
    (aLot : PySem.W.nsIn K mainGlobals "_law_lot" = some (some (.ref fLot)))
    (lLot : K.lookup fLot = some ⟨ocLot, odLot, .func (PySem.W.fnOf "_law_lot" "_law_lot" (defArgs sLot) (defBody sLot) (defScope sLot) .none kVLot dcLot pmLot anLot cdLot ctLot), slLot⟩)
    (cLot : PySem.W.codeIn K cdLot "_law_lot" = true) (kLot : PySem.W.keepIn K (.ref fLot) = true)
    {odUps anUps : Option Addr} {slUps : Array (Option Value)} {ocUps kVUps dcUps pmUps cdUps ctUps : Value}
    (aUps : PySem.W.nsIn K mainGlobals "_law_ups" = some (some (.ref fUps)))
    (lUps : K.lookup fUps = some ⟨ocUps, odUps, .func (PySem.W.fnOf "_law_ups" "_law_ups" (defArgs sUps) (defBody sUps) (defScope sUps) .none kVUps dcUps pmUps anUps cdUps ctUps), slUps⟩)
    (cUps : PySem.W.codeIn K cdUps "_law_ups" = true) (kUps : PySem.W.keepIn K (.ref fUps) = true)
    {odRows anRows : Option Addr} {slRows : Array (Option Value)} {ocRows kVRows dcRows pmRows cdRows ctRows : Value}
    (aRows : PySem.W.nsIn K mainGlobals "_law_rows" = some (some (.ref fRows)))
    (lRows : K.lookup fRows = some ⟨ocRows, odRows, .func (PySem.W.fnOf "_law_rows" "_law_rows" (defArgs sRows) (defBody sRows) (defScope sRows) .none kVRows dcRows pmRows anRows cdRows ctRows), slRows⟩)
    (cRows : PySem.W.codeIn K cdRows "_law_rows" = true) (kRows : PySem.W.keepIn K (.ref fRows) = true)
    {odStays anStays : Option Addr} {slStays : Array (Option Value)} {ocStays kVStays dcStays pmStays cdStays ctStays : Value}
    (aStays : PySem.W.nsIn K mainGlobals "_law_stays" = some (some (.ref fStays)))
    (lStays : K.lookup fStays = some ⟨ocStays, odStays, .func (PySem.W.fnOf "_law_stays" "_law_stays" (defArgs sStays) (defBody sStays) (defScope sStays) .none kVStays dcStays pmStays anStays cdStays ctStays), slStays⟩)
    (cStays : PySem.W.codeIn K cdStays "_law_stays" = true) (kStays : PySem.W.keepIn K (.ref fStays) = true)
    {odLBook anLBook : Option Addr} {slLBook : Array (Option Value)} {ocLBook kVLBook dcLBook pmLBook cdLBook ctLBook : Value}
    (aLBook : PySem.W.nsIn K mainGlobals "_law_book" = some (some (.ref fLBook)))
    (lLBook : K.lookup fLBook = some ⟨ocLBook, odLBook, .func (PySem.W.fnOf "_law_book" "_law_book" (defArgs sLBook) (defBody sLBook) (defScope sLBook) .none kVLBook dcLBook pmLBook anLBook cdLBook ctLBook), slLBook⟩)
    (cLBook : PySem.W.codeIn K cdLBook "_law_book" = true) (kLBook : PySem.W.keepIn K (.ref fLBook) = true)
    {odLReach anLReach : Option Addr} {slLReach : Array (Option Value)} {ocLReach kVLReach dcLReach pmLReach cdLReach ctLReach : Value}
    (aLReach : PySem.W.nsIn K mainGlobals "_law_reach" = some (some (.ref fLReach)))
    (lLReach : K.lookup fLReach = some ⟨ocLReach, odLReach, .func (PySem.W.fnOf "_law_reach" "_law_reach" (defArgs sLReach) (defBody sLReach) (defScope sLReach) .none kVLReach dcLReach pmLReach anLReach cdLReach ctLReach), slLReach⟩)
    (cLReach : PySem.W.codeIn K cdLReach "_law_reach" = true) (kLReach : PySem.W.keepIn K (.ref fLReach) = true)
    {odLLater anLLater : Option Addr} {slLLater : Array (Option Value)} {ocLLater kVLLater dcLLater pmLLater cdLLater ctLLater : Value}
    (aLLater : PySem.W.nsIn K mainGlobals "_law_later" = some (some (.ref fLLater)))
    (lLLater : K.lookup fLLater = some ⟨ocLLater, odLLater, .func (PySem.W.fnOf "_law_later" "_law_later" (defArgs sLLater) (defBody sLLater) (defScope sLLater) .none kVLLater dcLLater pmLLater anLLater cdLLater ctLLater), slLLater⟩)
    (cLLater : PySem.W.codeIn K cdLLater "_law_later" = true) (kLLater : PySem.W.keepIn K (.ref fLLater) = true)
    {odMarks anMarks : Option Addr} {slMarks : Array (Option Value)} {ocMarks kVMarks dcMarks pmMarks cdMarks ctMarks : Value}
    (aMarks : PySem.W.nsIn K mainGlobals "_law_all_marks" = some (some (.ref fMarks)))
    (lMarks : K.lookup fMarks = some ⟨ocMarks, odMarks, .func (PySem.W.fnOf "_law_all_marks" "_law_all_marks" (defArgs sMarks) (defBody sMarks) (defScope sMarks) .none kVMarks dcMarks pmMarks anMarks cdMarks ctMarks), slMarks⟩)
    (cMarks : PySem.W.codeIn K cdMarks "_law_all_marks" = true) (kMarks : PySem.W.keepIn K (.ref fMarks) = true)
    {odDrawn anDrawn : Option Addr} {slDrawn : Array (Option Value)} {ocDrawn kVDrawn dcDrawn pmDrawn cdDrawn ctDrawn : Value}
    (aDrawn : PySem.W.nsIn K mainGlobals "_law_drawn" = some (some (.ref fDrawn)))
    (lDrawn : K.lookup fDrawn = some ⟨ocDrawn, odDrawn, .func (PySem.W.fnOf "_law_drawn" "_law_drawn" (defArgs sDrawn) (defBody sDrawn) (defScope sDrawn) .none kVDrawn dcDrawn pmDrawn anDrawn cdDrawn ctDrawn), slDrawn⟩)
    (cDrawn : PySem.W.codeIn K cdDrawn "_law_drawn" = true) (kDrawn : PySem.W.keepIn K (.ref fDrawn) = true)
    {odAsOne anAsOne : Option Addr} {slAsOne : Array (Option Value)} {ocAsOne kVAsOne dcAsOne pmAsOne cdAsOne ctAsOne : Value}
    (aAsOne : PySem.W.nsIn K mainGlobals "_law_as_one" = some (some (.ref fAsOne)))
    (lAsOne : K.lookup fAsOne = some ⟨ocAsOne, odAsOne, .func (PySem.W.fnOf "_law_as_one" "_law_as_one" (defArgs sAsOne) (defBody sAsOne) (defScope sAsOne) .none kVAsOne dcAsOne pmAsOne anAsOne cdAsOne ctAsOne), slAsOne⟩)
    (cAsOne : PySem.W.codeIn K cdAsOne "_law_as_one" = true) (kAsOne : PySem.W.keepIn K (.ref fAsOne) = true)
    {odRight anRight : Option Addr} {slRight : Array (Option Value)} {ocRight kVRight dcRight pmRight cdRight ctRight : Value}
    (aRight : PySem.W.nsIn K mainGlobals "_law_right" = some (some (.ref fRight)))
    (lRight : K.lookup fRight = some ⟨ocRight, odRight, .func (PySem.W.fnOf "_law_right" "_law_right" (defArgs sRight) (defBody sRight) (defScope sRight) .none kVRight dcRight pmRight anRight cdRight ctRight), slRight⟩)
    (cRight : PySem.W.codeIn K cdRight "_law_right" = true) (kRight : PySem.W.keepIn K (.ref fRight) = true)
    {odLaw anLaw : Option Addr} {slLaw : Array (Option Value)} {ocLaw kVLaw dcLaw pmLaw cdLaw ctLaw : Value}
    (aLaw : PySem.W.nsIn K mainGlobals "law" = some (some (.ref fLaw)))
    (lLaw : K.lookup fLaw = some ⟨ocLaw, odLaw, .func (PySem.W.fnOf "law" "law" (defArgs sLaw) (defBody sLaw) (defScope sLaw) .none kVLaw dcLaw pmLaw anLaw cdLaw ctLaw), slLaw⟩)
    (cLaw : PySem.W.codeIn K cdLaw "law" = true) (kLaw : PySem.W.keepIn K (.ref fLaw) = true)
    (zM : PySem.W.nsIn K mainGlobals "MOST_SLOTS" = some (some (.int 5 tkM)))
    (zrange : PySem.W.nsIn K mainGlobals "range" = some none)
    (zlist : PySem.W.nsIn K mainGlobals "list" = some none)
    (zlen : PySem.W.nsIn K mainGlobals "len" = some none)
    (ztuple : PySem.W.nsIn K mainGlobals "tuple" = some none)
    (zsorted : PySem.W.nsIn K mainGlobals "sorted" = some none)
    (zsum : PySem.W.nsIn K mainGlobals "sum" = some none)
    (zrepr : PySem.W.nsIn K mainGlobals "repr" = some none)
    (zall : PySem.W.nsIn K mainGlobals "all" = some none)
    (zdict : PySem.W.nsIn K mainGlobals "dict" = some none)
    (zenumerate : PySem.W.nsIn K mainGlobals "enumerate" = some none)
    (zzip : PySem.W.nsIn K mainGlobals "zip" = some none)
    (zmin : PySem.W.nsIn K mainGlobals "min" = some none)
    (zmax : PySem.W.nsIn K mainGlobals "max" = some none)
    (zabs : PySem.W.nsIn K mainGlobals "abs" = some none)
    (zint : PySem.W.nsIn K mainGlobals "int" = some none)
    : ∃ fd : FuncData, (∀ (s : Shared) (v : Value), BindsTo s fd ⟨[v], []⟩ [("_law_script", v)]) ∧ ∀ base : Heap, K.In base → base.Ns mainGlobals mg → FnG l.prog w K mg base 9 fa fd ["_law_script"] (spLaw K) := by
  have e := hfa.symm.trans (PySem.W.mg_of X G aLaw)
  cases e
  have F_Later := fun_mk (st := sLater) lLater cLater kLater
  have F_Levels := fun_mk (st := sLevels) lLevels cLevels kLevels
  have F_Parts := fun_mk (st := sParts) lParts cParts kParts
  have F_Peel := fun_mk (st := sPeeled) lPeel cPeel kPeel
  have F_Book := fun_mk (st := sBook) lBook cBook kBook
  have F_Serves := fun_mk (st := sServes) lServes cServes kServes
  have F_Reach := fun_mk (st := sReach) lReach cReach kReach
  have F_Reaches := fun_mk (st := sReaches) lReaches cReaches kReaches
  have F_ReachIn := fun_mk (st := sReachIn) lReachIn cReachIn kReachIn
  have F_Pot := fun_mk (st := sPot) lPot cPot kPot
  have F_Take := fun_mk (st := sTake) lTake cTake kTake
  have F_Lot := fun_mk (st := sLot) lLot cLot kLot
  have F_Ups := fun_mk (st := sUps) lUps cUps kUps
  have F_Rows := fun_mk (st := sRows) lRows cRows kRows
  have F_Stays := fun_mk (st := sStays) lStays cStays kStays
  have F_LBook := fun_mk (st := sLBook) lLBook cLBook kLBook
  have F_LReach := fun_mk (st := sLReach) lLReach cLReach kLReach
  have F_LLater := fun_mk (st := sLLater) lLLater cLLater kLLater
  have F_Marks := fun_mk (st := sMarks) lMarks cMarks kMarks
  have F_Drawn := fun_mk (st := sDrawn) lDrawn cDrawn kDrawn
  have F_AsOne := fun_mk (st := sAsOne) lAsOne cAsOne kAsOne
  have F_Right := fun_mk (st := sRight) lRight cRight kRight
  have F_Law := fun_mk (st := sLaw) lLaw cLaw kLaw
  have b_Later := F_Later.binds (ps := ["lot"]) fun _ _ _ _ _ _ us hl => match us, hl with | [_], _ => rfl
  have b_Levels := F_Levels.binds (ps := ["lot", "most"]) fun _ _ _ _ _ _ us hl => match us, hl with | [_, _], _ => rfl
  have b_Parts := F_Parts.binds (ps := ["row", "mark"]) fun _ _ _ _ _ _ us hl => match us, hl with | [_, _], _ => rfl
  have b_Peel := F_Peel.binds (ps := ["above"]) fun _ _ _ _ _ _ us hl => match us, hl with | [_], _ => rfl
  have b_Book := F_Book.binds (ps := ["lot", "n"]) fun _ _ _ _ _ _ us hl => match us, hl with | [_, _], _ => rfl
  have b_Serves := F_Serves.binds (ps := ["lot", "n"]) fun _ _ _ _ _ _ us hl => match us, hl with | [_, _], _ => rfl
  have b_Reach := F_Reach.binds (ps := ["lot"]) fun _ _ _ _ _ _ us hl => match us, hl with | [_], _ => rfl
  have b_Reaches := F_Reaches.binds (ps := ["tower"]) fun _ _ _ _ _ _ us hl => match us, hl with | [_], _ => rfl
  have b_ReachIn := F_ReachIn.binds (ps := ["tower"]) fun _ _ _ _ _ _ us hl => match us, hl with | [_], _ => rfl
  have b_Pot := F_Pot.binds (ps := ["_law_script", "_law_k"]) fun _ _ _ _ _ _ us hl => match us, hl with | [_, _], _ => rfl
  have b_Take := F_Take.binds (ps := ["_law_pot_here", "_law_upto"]) fun _ _ _ _ _ _ us hl => match us, hl with | [_, _], _ => rfl
  have b_Lot := F_Lot.binds (ps := ["_law_pot_here", "_law_most"]) fun _ _ _ _ _ _ us hl => match us, hl with | [_, _], _ => rfl
  have b_Ups := F_Ups.binds (ps := ["_law_lot_here"]) fun _ _ _ _ _ _ us hl => match us, hl with | [_], _ => rfl
  have b_Rows := F_Rows.binds (ps := ["_law_ups_here", "_law_size"]) fun _ _ _ _ _ _ us hl => match us, hl with | [_, _], _ => rfl
  have b_Stays := F_Stays.binds (ps := ["_law_ups_here", "_law_row", "_law_there"]) fun _ _ _ _ _ _ us hl => match us, hl with | [_, _, _], _ => rfl
  have b_LBook := F_LBook.binds (ps := ["_law_lot_here", "_law_n"]) fun _ _ _ _ _ _ us hl => match us, hl with | [_, _], _ => rfl
  have b_LReach := F_LReach.binds (ps := ["_law_lot_here"]) fun _ _ _ _ _ _ us hl => match us, hl with | [_], _ => rfl
  have b_LLater := F_LLater.binds (ps := ["_law_tower_here", "_law_x", "_law_y"]) fun _ _ _ _ _ _ us hl => match us, hl with | [_, _, _], _ => rfl
  have b_Marks := F_Marks.binds (ps := ["_law_tower_here"]) fun _ _ _ _ _ _ us hl => match us, hl with | [_], _ => rfl
  have b_Drawn := F_Drawn.binds (ps := ["_law_pot_here"]) fun _ _ _ _ _ _ us hl => match us, hl with | [_], _ => rfl
  have b_AsOne := F_AsOne.binds (ps := ["_law_tower_here"]) fun _ _ _ _ _ _ us hl => match us, hl with | [_], _ => rfl
  have b_Right := F_Right.binds (ps := ["_law_pot_here"]) fun _ _ _ _ _ _ us hl => match us, hl with | [_], _ => rfl
  have n_range := PySem.W.mg_none_of X G zrange
  have n_list := PySem.W.mg_none_of X G zlist
  have n_len := PySem.W.mg_none_of X G zlen
  have n_tuple := PySem.W.mg_none_of X G ztuple
  have n_sorted := PySem.W.mg_none_of X G zsorted
  have n_sum := PySem.W.mg_none_of X G zsum
  have n_repr := PySem.W.mg_none_of X G zrepr
  have n_all := PySem.W.mg_none_of X G zall
  have n_dict := PySem.W.mg_none_of X G zdict
  have n_enumerate := PySem.W.mg_none_of X G zenumerate
  have n_zip := PySem.W.mg_none_of X G zzip
  have n_min := PySem.W.mg_none_of X G zmin
  have n_max := PySem.W.mg_none_of X G zmax
  have n_abs := PySem.W.mg_none_of X G zabs
  have n_int := PySem.W.mg_none_of X G zint
  have n_most : ∃ u, mg "MOST_SLOTS" = some u ∧ RelV (.int 5) u := ⟨_, PySem.W.mg_of X G zM, tkM, rfl⟩
  refine ⟨PySem.W.fnOf "law" "law" (defArgs sLaw) (defBody sLaw) (defScope sLaw) .none kVLaw dcLaw pmLaw anLaw cdLaw ctLaw, fun s v => .of_eq rfl, fun base _ _ => ?_⟩
  have C_Later : Cal l.prog w K mg base "later_than" 1 ["lot"] spUps fLater _ := ⟨ok_later (k := 0) F_Later n_range, b_Later, PySem.W.mg_of X G aLater, kLater⟩
  have C_Levels : Cal l.prog w K mg base "levels" 2 ["lot", "most"] spLevels fLevels _ := ⟨ok_levels F_Levels C_Later n_range n_list, b_Levels, PySem.W.mg_of X G aLevels, kLevels⟩
  have C_Parts : Cal l.prog w K mg base "parts_with" 1 ["row", "mark"] spParts fParts _ := ⟨ok_parts (k := 0) F_Parts n_range n_len, b_Parts, PySem.W.mg_of X G aParts, kParts⟩
  have C_Peel : Cal l.prog w K mg base "peeled" 2 ["above"] spPeel fPeel _ := ⟨ok_peeled F_Peel C_Parts n_list, b_Peel, PySem.W.mg_of X G aPeel, kPeel⟩
  have C_Book : Cal l.prog w K mg base "book" 3 ["lot", "n"] spBook fBook _ := ⟨ok_book F_Book C_Levels C_Peel n_tuple n_sorted, b_Book, PySem.W.mg_of X G aBook, kBook⟩
  have C_Serves : Cal l.prog w K mg base "serves" 4 ["lot", "n"] spServes fServes _ := ⟨ok_serves F_Serves C_Book, b_Serves, PySem.W.mg_of X G aServes, kServes⟩
  have C_Reach : Cal l.prog w K mg base "reach" 5 ["lot"] spReach fReach _ := ⟨ok_reach F_Reach C_Serves n_most, b_Reach, PySem.W.mg_of X G aReach, kReach⟩
  have C_Reaches : Cal l.prog w K mg base "reaches" 6 ["tower"] spReaches fReaches _ := ⟨ok_reaches F_Reaches C_Reach, b_Reaches, PySem.W.mg_of X G aReaches, kReaches⟩
  have C_ReachIn : Cal l.prog w K mg base "reach_in" 7 ["tower"] spReachIn fReachIn _ := ⟨ok_reachIn F_ReachIn C_Reaches n_sum, b_ReachIn, PySem.W.mg_of X G aReachIn, kReachIn⟩
  have C_Pot : Cal l.prog w K mg base "_law_pot" 1 ["_law_script", "_law_k"] (spPot K) fPot _ := ⟨ok_pot (k := 0) F_Pot n_len n_abs n_int, b_Pot, PySem.W.mg_of X G aPot, kPot⟩
  have C_Take : Cal l.prog w K mg base "_law_take" 1 ["_law_pot_here", "_law_upto"] spTake fTake _ := ⟨ok_take (k := 0) F_Take, b_Take, PySem.W.mg_of X G aTake, kTake⟩
  have C_Lot : Cal l.prog w K mg base "_law_lot" 2 ["_law_pot_here", "_law_most"] spLot fLot _ := ⟨ok_lot F_Lot C_Take n_min n_range n_tuple n_sorted, b_Lot, PySem.W.mg_of X G aLot, kLot⟩
  have C_Ups : Cal l.prog w K mg base "_law_ups" 1 ["_law_lot_here"] spUps fUps _ := ⟨ok_ups (k := 0) F_Ups n_range, b_Ups, PySem.W.mg_of X G aUps, kUps⟩
  have C_Rows : Cal l.prog w K mg base "_law_rows" 1 ["_law_ups_here", "_law_size"] spRows fRows _ := ⟨ok_rows (k := 0) F_Rows n_range n_len n_all, b_Rows, PySem.W.mg_of X G aRows, kRows⟩
  have C_Stays : Cal l.prog w K mg base "_law_stays" 1 ["_law_ups_here", "_law_row", "_law_there"] spStays fStays _ := ⟨ok_stays (k := 0) F_Stays n_range n_len n_all, b_Stays, PySem.W.mg_of X G aStays, kStays⟩
  have C_LBook : Cal l.prog w K mg base "_law_book" 2 ["_law_lot_here", "_law_n"] spLBook fLBook _ := ⟨ok_lbook F_LBook C_Ups C_Rows C_Stays n_dict n_len, b_LBook, PySem.W.mg_of X G aLBook, kLBook⟩
  have C_LReach : Cal l.prog w K mg base "_law_reach" 3 ["_law_lot_here"] spReach fLReach _ := ⟨ok_lreach F_LReach C_LBook, b_LReach, PySem.W.mg_of X G aLReach, kLReach⟩
  have C_LLater : Cal l.prog w K mg base "_law_later" 1 ["_law_tower_here", "_law_x", "_law_y"] spLater fLLater _ := ⟨ok_llater (k := 0) F_LLater n_zip, b_LLater, PySem.W.mg_of X G aLLater, kLLater⟩
  have C_Marks : Cal l.prog w K mg base "_law_all_marks" 1 ["_law_tower_here"] spMarks fMarks _ := ⟨ok_marks (k := 0) F_Marks n_range, b_Marks, PySem.W.mg_of X G aMarks, kMarks⟩
  have C_Drawn : Cal l.prog w K mg base "_law_drawn" 3 ["_law_pot_here"] spDrawn fDrawn _ := ⟨ok_drawn F_Drawn C_Take C_Lot n_range n_tuple, b_Drawn, PySem.W.mg_of X G aDrawn, kDrawn⟩
  have C_AsOne : Cal l.prog w K mg base "_law_as_one" 2 ["_law_tower_here"] spAsOne fAsOne _ := ⟨ok_asone F_AsOne C_Marks C_LLater n_enumerate n_range n_len n_tuple n_sorted, b_AsOne, PySem.W.mg_of X G aAsOne, kAsOne⟩
  exact ok_law F_Law (ok_right F_Right C_Drawn C_AsOne C_ReachIn C_Reach C_LReach n_sum n_repr) b_Right (PySem.W.mg_of X G aRight) kRight C_Pot n_all n_range n_max n_min n_len
end K9
open PySem PySem.W PyProof.Rows
set_option maxHeartbeats 0 in
theorem PySem.Challenge.cw_everlater_k91_whole_reach_is_the_sum_holds : PySem.Challenge.rw_everlater_k91_whole_reach_is_the_sum.Holds := by
  w_on; o_law; k_head; (case hw => w_witness2)
  k_fill
  refine K9.walk_ofG (l := PySem.Challenge.rw_everlater_k91_whole_reach_is_the_sum) (n := 63) (k := 9) (x := "_law_script") (sp := fun w => K9.spLaw _) rfl (by decide) rfl ⟨rfl, by decide, by decide⟩ (fun w h Y => PySem.W.kIn_of Y) ?F (fun _ _ a ns hl _ hS => ⟨a, ns, rfl, hS, hl, fun _ => rfl⟩)
  case F =>
    intro w mg fa h KX G hmg
    refine' K9.all_mk KX G hmg ?aLater ?lLater ?cLater ?kLater ?aLevels ?lLevels ?cLevels ?kLevels ?aParts ?lParts ?cParts ?kParts ?aPeel ?lPeel ?cPeel ?kPeel ?aBook ?lBook ?cBook ?kBook ?aServes ?lServes ?cServes ?kServes ?aReach ?lReach ?cReach ?kReach ?aReaches ?lReaches ?cReaches ?kReaches ?aReachIn ?lReachIn ?cReachIn ?kReachIn ?aPot ?lPot ?cPot ?kPot ?aTake ?lTake ?cTake ?kTake ?aLot ?lLot ?cLot ?kLot ?aUps ?lUps ?cUps ?kUps ?aRows ?lRows ?cRows ?kRows ?aStays ?lStays ?cStays ?kStays ?aLBook ?lLBook ?cLBook ?kLBook ?aLReach ?lLReach ?cLReach ?kLReach ?aLLater ?lLLater ?cLLater ?kLLater ?aMarks ?lMarks ?cMarks ?kMarks ?aDrawn ?lDrawn ?cDrawn ?kDrawn ?aAsOne ?lAsOne ?cAsOne ?kAsOne ?aRight ?lRight ?cRight ?kRight ?aLaw ?lLaw ?cLaw ?kLaw ?zM ?zrange ?zlist ?zlen ?ztuple ?zsorted ?zsum ?zrepr ?zall ?zdict ?zenumerate ?zzip ?zmin ?zmax ?zabs ?zint
    (case aLater => k_is)
    (case lLater => k_is)
    (case cLater => k_is)
    (case kLater => k_is)
    (case aLevels => k_is)
    (case lLevels => k_is)
    (case cLevels => k_is)
    (case kLevels => k_is)
    (case aParts => k_is)
    (case lParts => k_is)
    (case cParts => k_is)
    (case kParts => k_is)
    (case aPeel => k_is)
    (case lPeel => k_is)
    (case cPeel => k_is)
    (case kPeel => k_is)
    (case aBook => k_is)
    (case lBook => k_is)
    (case cBook => k_is)
    (case kBook => k_is)
    (case aServes => k_is)
    (case lServes => k_is)
    (case cServes => k_is)
    (case kServes => k_is)
    (case aReach => k_is)
    (case lReach => k_is)
    (case cReach => k_is)
    (case kReach => k_is)
    (case aReaches => k_is)
    (case lReaches => k_is)
    (case cReaches => k_is)
    (case kReaches => k_is)
    (case aReachIn => k_is)
    (case lReachIn => k_is)
    (case cReachIn => k_is)
    (case kReachIn => k_is)
    (case aPot => k_is)
    (case lPot => k_is)
    (case cPot => k_is)
    (case kPot => k_is)
    (case aTake => k_is)
    (case lTake => k_is)
    (case cTake => k_is)
    (case kTake => k_is)
    (case aLot => k_is)
    (case lLot => k_is)
    (case cLot => k_is)
    (case kLot => k_is)
    (case aUps => k_is)
    (case lUps => k_is)
    (case cUps => k_is)
    (case kUps => k_is)
    (case aRows => k_is)
    (case lRows => k_is)
    (case cRows => k_is)
    (case kRows => k_is)
    (case aStays => k_is)
    (case lStays => k_is)
    (case cStays => k_is)
    (case kStays => k_is)
    (case aLBook => k_is)
    (case lLBook => k_is)
    (case cLBook => k_is)
    (case kLBook => k_is)
    (case aLReach => k_is)
    (case lLReach => k_is)
    (case cLReach => k_is)
    (case kLReach => k_is)
    (case aLLater => k_is)
    (case lLLater => k_is)
    (case cLLater => k_is)
    (case kLLater => k_is)
    (case aMarks => k_is)
    (case lMarks => k_is)
    (case cMarks => k_is)
    (case kMarks => k_is)
    (case aDrawn => k_is)
    (case lDrawn => k_is)
    (case cDrawn => k_is)
    (case kDrawn => k_is)
    (case aAsOne => k_is)
    (case lAsOne => k_is)
    (case cAsOne => k_is)
    (case kAsOne => k_is)
    (case aRight => k_is)
    (case lRight => k_is)
    (case cRight => k_is)
    (case kRight => k_is)
    (case aLaw => k_is)
    (case lLaw => k_is)
    (case cLaw => k_is)
    (case kLaw => k_is)
    (case zM => k_is)
    (case zrange => k_is)
    (case zlist => k_is)
    (case zlen => k_is)
    (case ztuple => k_is)
    (case zsorted => k_is)
    (case zsum => k_is)
    (case zrepr => k_is)
    (case zall => k_is)
    (case zdict => k_is)
    (case zenumerate => k_is)
    (case zzip => k_is)
    (case zmin => k_is)
    (case zmax => k_is)
    (case zabs => k_is)
    (case zint => k_is)

