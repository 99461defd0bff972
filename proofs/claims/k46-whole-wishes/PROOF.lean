import PyProof.Rows.All
import Wide.All
import OpenK.AllK
import Wide.FinOn
import HandS.ForMost
import HandS.Defaults
import KE.KStateDown
import HandS.Exc
import HandS.TryOnly
import HandS.IsInst
import HandS.Deep
import HandS.SortInts
import HandS.Conv
import HandS.TupAny
import HandS.Star
import KE.GoesMore
import KE.DataMinMax
import KE.SortData
import HandS.Strs
import HandS.SetFor
import HandS.SortRule
import KE.KDictCopyH
import KE.KDictDisplayH
import HandS.DictTup
import HandS.DictComp
import PyProof.DictValues
import HandS.Lambda
import HandS.ExcOwn
import HandS.Style
import HandS.HeadHook1
import PyProof.ExcBaseAll.ValueError
import HandS.More
import HandS.ExcIs
import Lean
import HandS.EndTab
import HandS.Head0
import HandS.Head1
import HandS.Head2
import HandS.HeadEnd
import HandS.HeadHook2
import HandS.HeadHook3
import HandS.HeadHook4
import HandS.HeadWalk
import PySem.Challenge.RW_tallsits_k46_whole_wishes_compared
set_option Elab.async false
set_option linter.all false
set_option maxRecDepth 100000
set_option maxHeartbeats 4000000
/-! the text by places -/
namespace Ts
open PySem PySem.Spec PyProof.Rows L2
def top (i : Nat) : Stmt := PySem.Challenge.pw_tallsits_k46_whole_wishes_compared.main.body.getD i (.Pass ⟨0, 0, 0, 0⟩)
abbrev sIsInteger : Stmt := top 1
abbrev sIsIn : Stmt := top 2
abbrev sIsList : Stmt := top 3
abbrev sNeedWeb : Stmt := top 14
abbrev sIsSet : Stmt := top 15
abbrev sNeedPeople : Stmt := top 16
abbrev sNeedState : Stmt := top 17
abbrev sNeedTwo : Stmt := top 18
abbrev sNeedPerson : Stmt := top 19
abbrev sTaller : Stmt := top 20
abbrev sTallerIn : Stmt := top 21
abbrev sPeaksIn : Stmt := top 22
abbrev sPeaks : Stmt := top 23
abbrev sEverybody : Stmt := top 24
abbrev sApartIn : Stmt := top 25
abbrev sChoices : Stmt := top 26
abbrev sCallIn : Stmt := top 28
abbrev sMoversIn : Stmt := top 29
abbrev sMayCall : Stmt := top 31
abbrev sFits : Stmt := top 32
abbrev sNeedWay : Stmt := top 33
abbrev sLeads : Stmt := top 34
abbrev sTellingIn : Stmt := top 35
abbrev sDistance : Stmt := top 36
abbrev sReachedFrom : Stmt := top 37
abbrev sReached : Stmt := top 38
abbrev sLeastOf : Stmt := top 40
abbrev sCallsToEnd : Stmt := top 41
abbrev sNearestEnds : Stmt := top 42
abbrev sCallsToSit : Stmt := top 43
abbrev sCallsToSitAll : Stmt := top 44
abbrev sCallsToAlone : Stmt := top 45
abbrev sCallsToEndWith : Stmt := top 46
abbrev sCallsToSize : Stmt := top 47
abbrev sFewestStanding : Stmt := top 48
abbrev sCanSit : Stmt := top 49
abbrev sLeftWith : Stmt := top 50
abbrev sEndsIn : Stmt := top 52
abbrev sEnds : Stmt := top 53
abbrev sLeastEnd : Stmt := top 54
abbrev sCanStand : Stmt := top 55
abbrev sLawTaken : Stmt := top 57
abbrev sLawPick : Stmt := top 58
abbrev sLawBy : Stmt := top 59
abbrev sLawWeb : Stmt := top 60
abbrev sLawSets : Stmt := top 61
abbrev sLawUp : Stmt := top 62
abbrev sLawTold : Stmt := top 63
abbrev sLaw : Stmt := top 64
abbrev FnP (K : PySem.W.Frag) (x : Str) (st : Stmt) (f : Addr) (fd : FuncData) : Prop := FunD K x x (defArgs st) (defBody st) (defScope st) [] [] f fd
end Ts


/-! The mathematics of webs and calls: plain Lean, no program in sight. -/
namespace Tm
abbrev Web := List (List Nat)
def fr (w : Web) (p : Nat) : List Nat := w.getD p []
structure WebOk (w : Web) : Prop where
  pos : 1 ≤ w.length
  le : w.length ≤ 7
  asc : ∀ p, p < w.length → (fr w p).Pairwise (· < ·)
  lt : ∀ p, p < w.length → ∀ q ∈ fr w p, q < w.length
  irr : ∀ p, p < w.length → p ∉ fr w p
  sym : ∀ p q, p < w.length → q ∈ fr w p → p ∈ fr w q
structure SetOk (n : Nat) (s : List Nat) : Prop where
  asc : s.Pairwise (· < ·)
  lt : ∀ p ∈ s, p < n
/-- the call of c makes p sit -/
def hit (w : Web) (c p : Nat) : Bool := decide (p < c) && (fr w c).contains p
def cov (w : Web) (s S : List Nat) : List Nat := s.filter fun p => !(S.any fun c => hit w c p)
def Rch (w : Web) (s t : List Nat) : Prop := ∃ S, S.Sublist s ∧ cov w s S = t
def Dist (w : Web) (s t : List Nat) (d : Nat) : Prop := (∃ S, S.Sublist s ∧ cov w s S = t ∧ S.length = d) ∧ ∀ S, S.Sublist s → cov w s S = t → d ≤ S.length
def callIn (w : Web) (t : List Nat) (p : Nat) : List Nat := if t.contains p = true then t.filter fun o => decide (p ≤ o) || !(fr w p).contains o else t
def moversIn (w : Web) (t : List Nat) : List Nat := t.filter fun p => (fr w p).any fun o => decide (o < p) && t.contains o
def tallerIn (w : Web) (p : Nat) : List Nat := (fr w p).filter fun o => decide (p < o)
def peaksIn (w : Web) (s : List Nat) : List Nat := s.filter fun p => !((fr w p).any fun o => decide (p < o) && s.contains o)
def mayCall (w : Web) (s g : List Nat) : List Nat := s.filter fun p => !((fr w p).any fun o => decide (o < p) && g.contains o)
def fits (w : Web) (s g : List Nat) : Bool :=
  g.all (fun p => s.contains p) && (s.filter fun p => !g.contains p).all fun p => (tallerIn w p).any fun o => (mayCall w s g).contains o
def apart (w : Web) (t : List Nat) : Bool := !(t.any fun one => t.any fun other => (fr w one).contains other)
def choices : List Nat → List (List Nat) := fun people => people.foldl (fun found p => found ++ found.map fun row => row ++ [p]) [[]]

/-! ### lists -/
theorem asc_nodup {s : List Nat} (h : s.Pairwise (· < ·)) : s.Nodup := h.imp fun q => Nat.ne_of_lt q
theorem asc_sub {s t : List Nat} (h : t.Sublist s) (a : s.Pairwise (· < ·)) : t.Pairwise (· < ·) := a.sublist h
theorem SetOk.sub {n : Nat} {s t : List Nat} (o : SetOk n s) (h : t.Sublist s) : SetOk n t := ⟨o.asc.sublist h, fun p hp => o.lt p (h.subset hp)⟩
theorem SetOk.filter {n : Nat} {s : List Nat} (o : SetOk n s) (q : Nat → Bool) : SetOk n (s.filter q) := o.sub List.filter_sublist
/-- two ascending lists of the same members are one -/
theorem asc_ext : ∀ {s t : List Nat}, s.Pairwise (· < ·) → t.Pairwise (· < ·) → (∀ x, x ∈ s ↔ x ∈ t) → s = t
  | [], [], _, _, _ => rfl
  | [], b :: t, _, _, h => absurd ((h b).mpr List.mem_cons_self) (by simp)
  | a :: s, [], _, _, h => absurd ((h a).mp List.mem_cons_self) (by simp)
  | a :: s, b :: t, hs, ht, h => by
    rw [List.pairwise_cons] at hs ht
    have e : a = b := by
      rcases List.mem_cons.mp ((h a).mp List.mem_cons_self) with e | e
      · exact e
      · rcases List.mem_cons.mp ((h b).mpr List.mem_cons_self) with e' | e'
        · exact e'.symm
        · have h1 := ht.1 a e
          have h2 := hs.1 b e'
          omega
    subst e
    rw [asc_ext hs.2 ht.2 fun x => ?_]
    constructor
    · intro hx
      rcases List.mem_cons.mp ((h x).mp (List.mem_cons_of_mem _ hx)) with e | e
      · have := hs.1 x hx
        omega
      · exact e
    · intro hx
      rcases List.mem_cons.mp ((h x).mpr (List.mem_cons_of_mem _ hx)) with e | e
      · have := ht.1 x hx
        omega
      · exact e
theorem sub_of_mem : ∀ {s t : List Nat}, s.Pairwise (· < ·) → t.Pairwise (· < ·) → (∀ x ∈ t, x ∈ s) → t.Sublist s := fun {s t} hs ht h => by
  have e : t = s.filter fun x => t.contains x := asc_ext ht (hs.sublist List.filter_sublist) fun x => by
    rw [List.mem_filter, List.contains_iff_mem]
    exact ⟨fun hx => ⟨h x hx, hx⟩, fun hx => hx.2⟩
  rw [e]
  exact List.filter_sublist
theorem filter_self {s t : List Nat} (hs : s.Pairwise (· < ·)) (h : t.Sublist s) : s.filter (fun x => t.contains x) = t :=
  asc_ext (hs.sublist List.filter_sublist) (hs.sublist h) fun x => by
    rw [List.mem_filter, List.contains_iff_mem]
    exact ⟨fun hx => hx.2, fun hx => ⟨h.subset hx, hx⟩⟩
/-- a list without repetition within another is no longer -/
theorem nodup_len {α : Type} [DecidableEq α] : ∀ {l D : List α}, l.Nodup → (∀ x ∈ l, x ∈ D) → l.length ≤ D.length
  | [], _, _, _ => Nat.zero_le _
  | a :: l, D, hn, h => by
    rw [List.nodup_cons] at hn
    have ha : a ∈ D := h a List.mem_cons_self
    have h1 : l.length ≤ (D.erase a).length := nodup_len hn.2 fun x hx => by
      have hne : x ≠ a := fun e => hn.1 (e ▸ hx)
      exact (List.mem_erase_of_ne hne).mpr (h x (List.mem_cons_of_mem _ hx))
    rw [List.length_erase_of_mem ha] at h1
    have : 0 < D.length := List.length_pos_of_mem ha
    rw [List.length_cons]
    omega
theorem filter_or_len {s : List Nat} (hs : s.Nodup) (q : Nat → Bool) (p : Nat) : (s.filter fun x => q x || x == p).length ≤ (s.filter q).length + 1 := by
  induction s with
  | nil => simp
  | cons a s ih =>
    rw [List.nodup_cons] at hs
    have ih := ih hs.2
    by_cases ep : a = p
    · subst ep
      have e : (s.filter fun x => q x || x == a) = s.filter q := List.filter_congr fun x hx => by
        have : x ≠ a := fun e => hs.1 (e ▸ hx)
        simp [this]
      rw [List.filter_cons_of_pos (by simp), e, List.length_cons]
      have : (s.filter q).length ≤ ((a :: s).filter q).length := by
        rw [List.filter_cons]
        split
        · rw [List.length_cons]
          omega
        · exact Nat.le_refl _
      omega
    · by_cases hq : q a = true
      · rw [List.filter_cons_of_pos (by simp [hq]), List.filter_cons_of_pos hq, List.length_cons, List.length_cons]
        omega
      · rw [List.filter_cons_of_neg (by simp [hq, ep]), List.filter_cons_of_neg hq]
        exact ih

/-! ### calls -/
theorem hit_not (w : Web) (c p : Nat) : (decide (c ≤ p) || !(fr w c).contains p) = !hit w c p := by
  unfold hit
  by_cases h : p < c
  · rw [decide_eq_true h, decide_eq_false (by omega : ¬ c ≤ p)]
    simp
  · rw [decide_eq_false h, decide_eq_true (by omega : c ≤ p)]
    simp
theorem callIn_mem {w : Web} {t : List Nat} {p : Nat} (h : p ∈ t) : callIn w t p = t.filter fun o => !hit w p o := by
  unfold callIn
  rw [if_pos (List.contains_iff_mem.mpr h)]
  exact List.filter_congr fun o _ => hit_not w p o
theorem callIn_not {w : Web} {t : List Nat} {p : Nat} (h : p ∉ t) : callIn w t p = t := by
  unfold callIn
  rw [if_neg (fun z => h (List.contains_iff_mem.mp z))]
theorem callIn_sub (w : Web) (t : List Nat) (p : Nat) : (callIn w t p).Sublist t := by
  unfold callIn
  split
  · exact List.filter_sublist
  · exact List.Sublist.refl _
theorem cov_sub (w : Web) (s S : List Nat) : (cov w s S).Sublist s := List.filter_sublist
theorem mem_cov {w : Web} {s S : List Nat} {p : Nat} : p ∈ cov w s S ↔ p ∈ s ∧ ∀ c ∈ S, hit w c p = false := by
  unfold cov
  rw [List.mem_filter]
  simp [List.any_eq_false]
theorem cov_nil (w : Web) (s : List Nat) : cov w s [] = s := by
  unfold cov
  simp
theorem cov_snoc (w : Web) (s S : List Nat) (c : Nat) : cov w s (S ++ [c]) = (cov w s S).filter fun o => !hit w c o := by
  unfold cov
  rw [List.filter_filter]
  refine List.filter_congr fun o _ => ?_
  rw [List.any_append, Bool.not_or]
  simp [Bool.and_comm]
theorem hit_lt {w : Web} {c p : Nat} (h : hit w c p = true) : p < c := by
  unfold hit at h
  exact of_decide_eq_true (Bool.and_eq_true_iff.mp h).1
theorem hit_fr {w : Web} {c p : Nat} (h : hit w c p = true) : p ∈ fr w c := by
  unfold hit at h
  exact List.contains_iff_mem.mp (Bool.and_eq_true_iff.mp h).2
theorem hit_of {w : Web} {c p : Nat} (h : p < c) (h2 : p ∈ fr w c) : hit w c p = true := by
  unfold hit
  rw [decide_eq_true h, List.contains_iff_mem.mpr h2]
  rfl
theorem mem_movers {w : Web} {t : List Nat} {p : Nat} : p ∈ moversIn w t ↔ p ∈ t ∧ ∃ o ∈ t, hit w p o = true := by
  unfold moversIn
  rw [List.mem_filter, List.any_eq_true]
  constructor
  · rintro ⟨h1, o, h2, h3⟩
    obtain ⟨h4, h5⟩ := Bool.and_eq_true_iff.mp h3
    exact ⟨h1, o, List.contains_iff_mem.mp h5, hit_of (of_decide_eq_true h4) h2⟩
  · rintro ⟨h1, o, h2, h3⟩
    refine ⟨h1, o, hit_fr h3, ?_⟩
    rw [decide_eq_true (hit_lt h3), List.contains_iff_mem.mpr h2]
    rfl
/-- reached by k changing calls -/
inductive Lv (w : Web) (s : List Nat) : Nat → List Nat → Prop
  | zero : Lv w s 0 s
  | succ {k : Nat} {t : List Nat} {p : Nat} : Lv w s k t → p ∈ moversIn w t → Lv w s (k + 1) (callIn w t p)
theorem lv_cov {w : Web} {s : List Nat} (hs : s.Pairwise (· < ·)) {k : Nat} {t : List Nat} (h : Lv w s k t) : ∃ S, S.Sublist s ∧ S.length ≤ k ∧ cov w s S = t := by
  induction h with
  | zero => exact ⟨[], List.nil_sublist _, Nat.le_refl _, cov_nil w s⟩
  | @succ k t p _ hp ih =>
    obtain ⟨S, h1, h2, h3⟩ := ih
    refine ⟨s.filter fun x => S.contains x || x == p, List.filter_sublist, ?_, ?_⟩
    · have q := filter_or_len (asc_nodup hs) (fun x => S.contains x) p
      rw [filter_self hs h1] at q
      omega
    · obtain ⟨hpt, _⟩ := mem_movers.mp hp
      rw [callIn_mem hpt]
      subst h3
      refine asc_ext (hs.sublist (cov_sub _ _ _)) ((hs.sublist (cov_sub _ _ _)).sublist List.filter_sublist) fun x => ?_
      rw [mem_cov, List.mem_filter, mem_cov]
      have hps : p ∈ s := (mem_cov.mp hpt).1
      constructor
      · rintro ⟨hx, hc⟩
        refine ⟨⟨hx, fun c hc' => hc c ?_⟩, ?_⟩
        · rw [List.mem_filter]
          exact ⟨h1.subset hc', by rw [List.contains_iff_mem.mpr hc']; rfl⟩
        · have q := hc p (by rw [List.mem_filter]; exact ⟨hps, by simp⟩)
          rw [q]
          rfl
      · rintro ⟨⟨hx, hc⟩, hp'⟩
        refine ⟨hx, fun c hc' => ?_⟩
        rw [List.mem_filter, Bool.or_eq_true] at hc'
        rcases hc'.2 with z | z
        · exact hc c (List.contains_iff_mem.mp z)
        · have e : c = p := by simpa using z
          subst e
          simpa using hp'
theorem filter_all {α : Type} {l : List α} {q : α → Bool} (h : ∀ x ∈ l, q x = true) : l.filter q = l := List.filter_eq_self.mpr h
theorem cov_lv {w : Web} {s : List Nat} (hs : s.Pairwise (· < ·)) : ∀ (n : Nat) (S : List Nat), S.length = n → S.Sublist s → ∃ k, k ≤ n ∧ Lv w s k (cov w s S)
  | 0, S, hn, _ => by
    have e : S = [] := List.length_eq_zero_iff.mp hn
    subst e
    rw [cov_nil]
    exact ⟨0, Nat.le_refl _, .zero⟩
  | n + 1, S, hn, h => by
    have hne : S ≠ [] := fun e => by rw [e] at hn; simp at hn
    have e := List.dropLast_concat_getLast hne
    generalize S.dropLast = S1 at e
    generalize S.getLast hne = c at e
    subst e
    have h1 : S1.Sublist s := (List.sublist_append_left S1 [c]).trans h
    obtain ⟨k, hk, l⟩ := cov_lv hs n S1 (by rw [List.length_append, List.length_singleton] at hn; omega) h1
    have hc : c ∈ cov w s S1 := by
      rw [mem_cov]
      refine ⟨h.subset (by simp), fun c1 h2 => ?_⟩
      have asc := hs.sublist h
      rw [List.pairwise_append] at asc
      have lt := asc.2.2 c1 h2 c (by simp)
      cases q : hit w c1 c with
      | false => rfl
      | true =>
        have := hit_lt q
        omega
    rw [cov_snoc]
    by_cases hm : c ∈ moversIn w (cov w s S1)
    · refine ⟨k + 1, by omega, ?_⟩
      have z := Lv.succ l hm
      rw [callIn_mem hc] at z
      exact z
    · refine ⟨k, by omega, ?_⟩
      rw [filter_all]
      · exact l
      · intro o ho
        cases q : hit w c o with
        | false => rfl
        | true => exact absurd (mem_movers.mpr ⟨hc, o, ho, q⟩) hm
def Least (w : Web) (s : List Nat) (d : Nat) (t : List Nat) : Prop := Lv w s d t ∧ ∀ j, j < d → ¬ Lv w s j t
theorem least_dist {w : Web} {s : List Nat} (hs : s.Pairwise (· < ·)) {d : Nat} {t : List Nat} : Least w s d t ↔ Dist w s t d := by
  constructor
  · rintro ⟨h1, h2⟩
    have lo : ∀ S, S.Sublist s → cov w s S = t → d ≤ S.length := fun S h3 h4 => by
      obtain ⟨k, hk, l⟩ := cov_lv hs S.length S rfl h3
      rw [h4] at l
      exact Nat.le_trans (Nat.le_of_not_lt fun z => h2 k z l) hk
    obtain ⟨S, h3, h4, h5⟩ := lv_cov hs h1
    exact ⟨⟨S, h3, h5, Nat.le_antisymm h4 (lo S h3 h5)⟩, lo⟩
  · rintro ⟨⟨S, h1, h2, h3⟩, h4⟩
    have lo : ∀ j, j < d → ¬ Lv w s j t := fun j hj l => by
      obtain ⟨S', h5, h6, h7⟩ := lv_cov hs l
      have := h4 S' h5 h7
      omega
    obtain ⟨k, hk, l⟩ := cov_lv hs S.length S rfl h1
    rw [h2] at l
    have : ¬ k < d := fun z => lo k z l
    have e : k = d := by omega
    subst e
    exact ⟨l, lo⟩
theorem least_of_lv {w : Web} {s : List Nat} : ∀ {k : Nat} {t : List Nat}, Lv w s k t → ∃ d, d ≤ k ∧ Least w s d t := fun {k} => by
  induction k using Nat.strongRecOn with
  | ind k ih =>
    intro t h
    by_cases c : ∃ j, j < k ∧ Lv w s j t
    · obtain ⟨j, hj, l⟩ := c
      obtain ⟨d, hd, q⟩ := ih j hj l
      exact ⟨d, by omega, q⟩
    · exact ⟨k, Nat.le_refl _, h, fun j hj l => c ⟨j, hj, l⟩⟩
theorem Dist.inj {w : Web} {s t : List Nat} {d e : Nat} (h : Dist w s t d) (h' : Dist w s t e) : d = e := by
  obtain ⟨⟨S, h1, h2, h3⟩, h4⟩ := h
  obtain ⟨⟨S', h1', h2', h3'⟩, h4'⟩ := h'
  have a := h4 S' h1' h2'
  have b := h4' S h1 h2
  omega
theorem Dist.rch {w : Web} {s t : List Nat} {d : Nat} (h : Dist w s t d) : Rch w s t := by
  obtain ⟨⟨S, h1, h2, _⟩, _⟩ := h
  exact ⟨S, h1, h2⟩
theorem Dist.le {w : Web} {s t : List Nat} {d : Nat} (h : Dist w s t d) : d ≤ s.length := by
  obtain ⟨⟨S, h1, h2, h3⟩, _⟩ := h
  rw [← h3]
  exact h1.length_le
theorem Rch.dist {w : Web} {s t : List Nat} (hs : s.Pairwise (· < ·)) (h : Rch w s t) : ∃ d, Dist w s t d := by
  obtain ⟨S, h1, h2⟩ := h
  obtain ⟨k, hk, l⟩ := cov_lv hs S.length S rfl h1
  rw [h2] at l
  obtain ⟨d, hd, q⟩ := least_of_lv l
  exact ⟨d, (least_dist hs).mp q⟩
theorem Rch.sub {w : Web} {s t : List Nat} (h : Rch w s t) : t.Sublist s := by
  obtain ⟨S, _, h2⟩ := h
  rw [← h2]
  exact cov_sub _ _ _

/-! ### the walk level by level -/
abbrev Kvs := List (List Nat × Nat)
def addC (many : Nat) (acc : Kvs × List (List Nat)) (there : List Nat) : Kvs × List (List Nat) :=
  if (acc.1.map (·.1)).contains there = true then acc else (acc.1 ++ [(there, many)], acc.2 ++ [there])
/-- the calls of all movers of a state -/
def nexts (w : Web) (here : List Nat) : List (List Nat) := (moversIn w here).map fun p => callIn w here p
def level (w : Web) (many : Nat) (found : Kvs) (last : List (List Nat)) : Kvs × List (List Nat) := (last.flatMap (nexts w)).foldl (addC many) (found, [])
theorem addC_all (many : Nat) : ∀ (cs : List (List Nat)) (acc : Kvs × List (List Nat)), (acc.1.map (·.1)).Nodup →
    ((cs.foldl (addC many) acc).1.map (·.1)).Nodup ∧ ∃ new : List (List Nat), (cs.foldl (addC many) acc).1 = acc.1 ++ new.map (fun t => (t, many)) ∧ (cs.foldl (addC many) acc).2 = acc.2 ++ new ∧ ∀ t, t ∈ new ↔ t ∈ cs ∧ t ∉ acc.1.map (·.1)
  | [], acc, h => ⟨h, [], by simp, by simp, fun t => by simp⟩
  | c :: cs, acc, h => by
    rw [List.foldl_cons]
    by_cases hc : c ∈ acc.1.map (·.1)
    · have e : addC many acc c = acc := by
        unfold addC
        rw [if_pos (List.contains_iff_mem.mpr hc)]
      rw [e]
      obtain ⟨h1, new, h2, h3, h4⟩ := addC_all many cs acc h
      refine ⟨h1, new, h2, h3, fun t => ?_⟩
      rw [h4, List.mem_cons]
      constructor
      · rintro ⟨a, b⟩
        exact ⟨.inr a, b⟩
      · rintro ⟨a | a, b⟩
        · subst a
          exact absurd hc b
        · exact ⟨a, b⟩
    · have e : addC many acc c = (acc.1 ++ [(c, many)], acc.2 ++ [c]) := by
        unfold addC
        rw [if_neg (fun z => hc (List.contains_iff_mem.mp z))]
      rw [e]
      have hn : ((acc.1 ++ [(c, many)]).map (·.1)).Nodup := by
        rw [List.map_append, List.nodup_append]
        refine ⟨h, by simp, fun a ha b hb => ?_⟩
        have eb : b = c := by simpa using hb
        intro z
        rw [eb] at z
        exact hc (z ▸ ha)
      obtain ⟨h1, new, h2, h3, h4⟩ := addC_all many cs (acc.1 ++ [(c, many)], acc.2 ++ [c]) hn
      refine ⟨h1, c :: new, by rw [h2]; simp, by rw [h3]; simp, fun t => ?_⟩
      rw [List.mem_cons, h4, List.mem_cons, List.map_append, List.mem_append]
      constructor
      · rintro (a | ⟨a, b⟩)
        · subst a
          exact ⟨.inl rfl, hc⟩
        · exact ⟨.inr a, fun z => b (.inl z)⟩
      · rintro ⟨a | a, b⟩
        · exact .inl a
        · by_cases et : t = c
          · exact .inl et
          · refine .inr ⟨a, fun z => ?_⟩
            rcases z with z | z
            · exact b z
            · exact et (by simpa using z)
structure BInv (w : Web) (s : List Nat) (found : Kvs) (last : List (List Nat)) (many : Nat) : Prop where
  nd : (found.map (·.1)).Nodup
  mem : ∀ t d, (t, d) ∈ found ↔ Least w s d t ∧ d ≤ many
  last : ∀ t, t ∈ last ↔ Least w s many t
theorem binv_start (w : Web) (s : List Nat) : BInv w s [(s, 0)] [s] 0 := by
  have h0 : ∀ t, Lv w s 0 t ↔ t = s := fun t => ⟨fun h => by cases h; rfl, fun e => by subst e; exact .zero⟩
  refine ⟨by simp, fun t d => ?_, fun t => ?_⟩
  · constructor
    · intro h
      have e : t = s ∧ d = 0 := by simpa using h
      obtain ⟨rfl, rfl⟩ := e
      exact ⟨⟨.zero, fun j hj => absurd hj (Nat.not_lt_zero _)⟩, Nat.le_refl _⟩
    · rintro ⟨⟨h1, _⟩, h2⟩
      have e : d = 0 := by omega
      subst e
      rw [(h0 t).mp h1]
      simp
  · constructor
    · intro h
      have e : t = s := by simpa using h
      subst e
      exact ⟨.zero, fun j hj => absurd hj (Nat.not_lt_zero _)⟩
    · rintro ⟨h1, _⟩
      rw [(h0 t).mp h1]
      simp
theorem BInv.key {w : Web} {s : List Nat} {found : Kvs} {last : List (List Nat)} {many : Nat} (b : BInv w s found last many) {t : List Nat} : t ∈ found.map (·.1) ↔ ∃ d, d ≤ many ∧ Least w s d t := by
  constructor
  · intro h
    obtain ⟨⟨t', d⟩, h1, h2⟩ := List.mem_map.mp h
    have e : t' = t := h2
    subst e
    obtain ⟨h3, h4⟩ := (b.mem _ _).mp h1
    exact ⟨d, h4, h3⟩
  · rintro ⟨d, h1, h2⟩
    exact List.mem_map.mpr ⟨(t, d), (b.mem _ _).mpr ⟨h2, h1⟩, rfl⟩
theorem least_pred {w : Web} {s : List Nat} {d : Nat} {t : List Nat} (h : Least w s (d + 1) t) : ∃ here p, Least w s d here ∧ p ∈ moversIn w here ∧ t = callIn w here p := by
  obtain ⟨h1, h2⟩ := h
  cases h1 with
  | @succ k here p l hp => exact ⟨here, p, ⟨l, fun j hj l' => h2 (j + 1) (by omega) (.succ l' hp)⟩, hp, rfl⟩
theorem binv_step {w : Web} {s : List Nat} {found : Kvs} {last : List (List Nat)} {many : Nat} (b : BInv w s found last many) : BInv w s (level w (many + 1) found last).1 (level w (many + 1) found last).2 (many + 1) := by
  obtain ⟨h1, new, h2, h3, h4⟩ := addC_all (many + 1) (last.flatMap (nexts w)) (found, []) b.nd
  have hnew : ∀ t, t ∈ new ↔ Least w s (many + 1) t := fun t => by
    rw [h4, List.mem_flatMap]
    constructor
    · rintro ⟨⟨here, h5, h6⟩, h7⟩
      obtain ⟨p, h8, h9⟩ := List.mem_map.mp h6
      have l := Lv.succ ((b.last here).mp h5).1 h8
      rw [h9] at l
      refine ⟨l, fun j hj l' => h7 (b.key.mpr ?_)⟩
      obtain ⟨d, hd, q⟩ := least_of_lv l'
      exact ⟨d, by omega, q⟩
    · intro h
      obtain ⟨here, p, h5, h6, h7⟩ := least_pred h
      refine ⟨⟨here, (b.last here).mpr h5, List.mem_map.mpr ⟨p, h6, h7.symm⟩⟩, fun z => ?_⟩
      obtain ⟨d, hd, q⟩ := b.key.mp z
      exact h.2 d (by omega) q.1
  refine ⟨h1, fun t d => ?_, fun t => ?_⟩
  · show (t, d) ∈ ((last.flatMap (nexts w)).foldl (addC (many + 1)) (found, [])).1 ↔ _
    rw [h2, List.mem_append]
    constructor
    · rintro (h | h)
      · obtain ⟨a, c⟩ := (b.mem t d).mp h
        exact ⟨a, by omega⟩
      · obtain ⟨t', h5, h6⟩ := List.mem_map.mp h
        obtain ⟨rfl, rfl⟩ := Prod.mk.inj h6
        exact ⟨(hnew _).mp h5, Nat.le_refl _⟩
    · rintro ⟨a, c⟩
      by_cases e : d = many + 1
      · subst e
        exact .inr (List.mem_map.mpr ⟨t, (hnew t).mpr a, rfl⟩)
      · exact .inl ((b.mem t d).mpr ⟨a, by omega⟩)
  · show t ∈ ((last.flatMap (nexts w)).foldl (addC (many + 1)) (found, [])).2 ↔ _
    rw [h3, List.nil_append]
    exact hnew t
/-- what reached_from gives: all sets, each with its fewest calls -/
structure RF (w : Web) (s : List Nat) (kvs : Kvs) : Prop where
  nd : (kvs.map (·.1)).Nodup
  mem : ∀ t d, (t, d) ∈ kvs ↔ Dist w s t d
theorem binv_end {w : Web} {s : List Nat} (hs : s.Pairwise (· < ·)) {found : Kvs} {many : Nat} (b : BInv w s found [] many) : RF w s found := by
  refine ⟨b.nd, fun t d => ?_⟩
  rw [b.mem, least_dist hs]
  refine ⟨fun h => h.1, fun h => ⟨h, Nat.le_of_not_lt fun z => ?_⟩⟩
  have none : ∀ e t, Least w s (many + e) t → False := fun e => by
    induction e with
    | zero => exact fun t h => absurd ((b.last t).mpr h) (by simp)
    | succ e ih =>
      intro t h
      obtain ⟨here, _, h1, _⟩ := least_pred (d := many + e) h
      exact ih here h1
  have h' := (least_dist hs).mpr h
  have e : d = many + (d - many) := by omega
  rw [e] at h'
  exact none _ t h'
theorem BInv.many_le {w : Web} {s : List Nat} (hs : s.Pairwise (· < ·)) {found : Kvs} {last : List (List Nat)} {many : Nat} (b : BInv w s found last many) (h : last ≠ []) : many ≤ s.length := by
  obtain ⟨t, r, e⟩ := List.exists_cons_of_ne_nil h
  have q := (least_dist hs).mp ((b.last t).mp (by rw [e]; simp))
  exact q.le

/-! ### choices -/
theorem choices_snoc (s : List Nat) (p : Nat) : choices (s ++ [p]) = choices s ++ (choices s).map fun row => row ++ [p] := by
  unfold choices
  rw [List.foldl_append]
  rfl
theorem choices_len : ∀ (n : Nat) (s : List Nat), s.length = n → (choices s).length = 2 ^ n
  | 0, s, h => by
    have e : s = [] := List.length_eq_zero_iff.mp h
    subst e
    rfl
  | n + 1, s, h => by
    have hne : s ≠ [] := fun e => by rw [e] at h; simp at h
    have e := List.dropLast_concat_getLast hne
    generalize s.dropLast = s1 at e
    generalize s.getLast hne = c at e
    subst e
    have ih := choices_len n s1 (by rw [List.length_append, List.length_singleton] at h; omega)
    rw [choices_snoc, List.length_append, List.length_map, ih]
    omega
theorem mem_choices : ∀ (n : Nat) (s : List Nat), s.length = n → ∀ t, t ∈ choices s ↔ t.Sublist s
  | 0, s, h, t => by
    have e : s = [] := List.length_eq_zero_iff.mp h
    subst e
    show t ∈ [[]] ↔ _
    simp
  | n + 1, s, h, t => by
    have hne : s ≠ [] := fun e => by rw [e] at h; simp at h
    have e := List.dropLast_concat_getLast hne
    generalize s.dropLast = s1 at e
    generalize s.getLast hne = c at e
    subst e
    have ih := mem_choices n s1 (by rw [List.length_append, List.length_singleton] at h; omega)
    rw [choices_snoc, List.mem_append, List.mem_map, List.sublist_append_iff]
    constructor
    · rintro (h1 | ⟨u, h1, rfl⟩)
      · exact ⟨t, [], by simp, (ih t).mp h1, List.nil_sublist _⟩
      · exact ⟨u, [c], rfl, (ih u).mp h1, List.Sublist.refl _⟩
    · rintro ⟨a, b, rfl, h1, h2⟩
      have e : b = [] ∨ b = [c] := by
        cases h2 with
        | cons _ h => exact .inl (List.sublist_nil.mp h)
        | cons_cons _ h => exact .inr (by rw [List.sublist_nil.mp h])
      rcases e with e | e
      · subst e
        rw [List.append_nil]
        exact .inl ((ih a).mpr h1)
      · subst e
        exact .inr ⟨a, (ih a).mpr h1, rfl⟩
theorem choices_mem {s t : List Nat} : t ∈ choices s ↔ t.Sublist s := mem_choices s.length s rfl t
theorem RF.len {w : Web} {s : List Nat} {kvs : Kvs} (r : RF w s kvs) : kvs.length ≤ 2 ^ s.length := by
  rw [← choices_len s.length s rfl, ← List.length_map (f := fun q : List Nat × Nat => q.1)]
  refine nodup_len r.nd fun t ht => ?_
  obtain ⟨⟨t', d⟩, h1, h2⟩ := List.mem_map.mp ht
  have e : t' = t := h2
  subst e
  exact choices_mem.mpr ((r.mem _ _).mp h1).rch.sub
theorem BInv.len {w : Web} {s : List Nat} (hs : s.Pairwise (· < ·)) {kvs : Kvs} {last : List (List Nat)} {many : Nat} (b : BInv w s kvs last many) : kvs.length ≤ 2 ^ s.length := by
  rw [← choices_len s.length s rfl, ← List.length_map (f := fun q : List Nat × Nat => q.1)]
  refine nodup_len b.nd fun t ht => ?_
  obtain ⟨d, _, h⟩ := b.key.mp ht
  exact choices_mem.mpr ((least_dist hs).mp h).rch.sub

/-! ### who can come -/
section
variable {w : Web} {s : List Nat}
theorem SetOk.fr_lt (o : SetOk w.length s) {p : Nat} (hp : p ∈ s) : p < w.length := o.lt p hp
theorem mem_mayCall {g : List Nat} {p : Nat} : p ∈ mayCall w s g ↔ p ∈ s ∧ ∀ o ∈ g, hit w p o = false := by
  unfold mayCall
  rw [List.mem_filter, Bool.not_eq_true', List.any_eq_false]
  constructor
  · rintro ⟨h1, h2⟩
    refine ⟨h1, fun o ho => ?_⟩
    cases q : hit w p o with
    | false => rfl
    | true =>
      have z := h2 o (hit_fr q)
      rw [decide_eq_true (hit_lt q), List.contains_iff_mem.mpr ho] at z
      exact absurd rfl z
  · rintro ⟨h1, h2⟩
    refine ⟨h1, fun o ho z => ?_⟩
    obtain ⟨z1, z2⟩ := Bool.and_eq_true_iff.mp z
    have q := h2 o (List.contains_iff_mem.mp z2)
    rw [hit_of (of_decide_eq_true z1) ho] at q
    cases q
theorem mem_tallerIn {p c : Nat} : c ∈ tallerIn w p ↔ c ∈ fr w p ∧ p < c := by
  unfold tallerIn
  rw [List.mem_filter, decide_eq_true_eq]
theorem taller_hit (W : WebOk w) {p c : Nat} (hp : p < w.length) (hc : c < w.length) : c ∈ tallerIn w p ↔ hit w c p = true := by
  rw [mem_tallerIn]
  exact ⟨fun h => hit_of h.2 (W.sym p c hp h.1), fun h => ⟨W.sym c p hc (hit_fr h), hit_lt h⟩⟩
theorem fits_iff (W : WebOk w) (o : SetOk w.length s) {g : List Nat} (og : SetOk w.length g) : fits w s g = true ↔ Rch w s g := by
  unfold fits
  rw [Bool.and_eq_true, List.all_eq_true, List.all_eq_true]
  constructor
  · rintro ⟨h1, h2⟩
    refine ⟨mayCall w s g, List.filter_sublist, asc_ext (o.asc.sublist (cov_sub _ _ _)) og.asc fun x => ?_⟩
    rw [mem_cov]
    constructor
    · rintro ⟨hx, hc⟩
      refine Decidable.byContradiction fun hn => ?_
      have z := h2 x (List.mem_filter.mpr ⟨hx, by simp [hn]⟩)
      obtain ⟨c, h3, h4⟩ := List.any_eq_true.mp z
      have h5 := List.contains_iff_mem.mp h4
      have q := hc c h5
      rw [(taller_hit W (o.lt x hx) (o.lt c (mem_mayCall.mp h5).1)).mp h3] at q
      cases q
    · intro hx
      exact ⟨List.contains_iff_mem.mp (h1 x hx), fun c hc => (mem_mayCall.mp hc).2 x hx⟩
  · rintro ⟨S, h1, rfl⟩
    refine ⟨fun p hp => List.contains_iff_mem.mpr (mem_cov.mp hp).1, fun p hp => ?_⟩
    obtain ⟨h2, h3⟩ := List.mem_filter.mp hp
    have h4 : p ∉ cov w s S := by simpa using h3
    obtain ⟨c, h5, h6⟩ : ∃ c ∈ S, hit w c p = true := Decidable.byContradiction fun hn => h4 (mem_cov.mpr ⟨h2, fun c hc => by
      cases q : hit w c p with
      | false => rfl
      | true => exact absurd ⟨c, hc, q⟩ hn⟩)
    refine List.any_eq_true.mpr ⟨c, (taller_hit W (o.lt p h2) (o.lt c (h1.subset h5))).mpr h6, List.contains_iff_mem.mpr (mem_mayCall.mpr ⟨h1.subset h5, fun q hq => (mem_cov.mp hq).2 c h5⟩)⟩
/-- the calls of a set, the shortest first -/
theorem foldl_cov (hs : s.Pairwise (· < ·)) : ∀ (n : Nat) (S : List Nat), S.length = n → S.Sublist s → S.foldl (callIn w) s = cov w s S
  | 0, S, hn, _ => by
    have e : S = [] := List.length_eq_zero_iff.mp hn
    subst e
    rw [cov_nil]
    rfl
  | n + 1, S, hn, h => by
    have hne : S ≠ [] := fun e => by rw [e] at hn; simp at hn
    have e := List.dropLast_concat_getLast hne
    generalize S.dropLast = S1 at e
    generalize S.getLast hne = c at e
    subst e
    have h1 : S1.Sublist s := (List.sublist_append_left S1 [c]).trans h
    have ih := foldl_cov hs n S1 (by rw [List.length_append, List.length_singleton] at hn; omega) h1
    have hc : c ∈ cov w s S1 := by
      rw [mem_cov]
      refine ⟨h.subset (by simp), fun c1 h2 => ?_⟩
      have asc := hs.sublist h
      rw [List.pairwise_append] at asc
      have lt := asc.2.2 c1 h2 c (by simp)
      cases q : hit w c1 c with
      | false => rfl
      | true =>
        have := hit_lt q
        omega
    rw [List.foldl_append, ih, cov_snoc, ← callIn_mem hc]
    rfl
/-- the sets of callers that lead to g by the shortest first -/
def tellL (w : Web) (s g : List Nat) : List (List Nat) := (choices (mayCall w s g)).filter fun row => row.foldl (callIn w) s == g
theorem mem_tellL (hs : s.Pairwise (· < ·)) {g S : List Nat} : S ∈ tellL w s g ↔ S.Sublist s ∧ cov w s S = g := by
  unfold tellL
  rw [List.mem_filter, choices_mem, beq_iff_eq]
  constructor
  · rintro ⟨h1, h2⟩
    have h3 : S.Sublist s := h1.trans List.filter_sublist
    rw [foldl_cov hs S.length S rfl h3] at h2
    exact ⟨h3, h2⟩
  · rintro ⟨h1, h2⟩
    refine ⟨sub_of_mem (hs.sublist List.filter_sublist) (hs.sublist h1) fun c hc => mem_mayCall.mpr ⟨h1.subset hc, fun o ho => ?_⟩, ?_⟩
    · rw [← h2] at ho
      exact (mem_cov.mp ho).2 c hc
    · rw [foldl_cov hs S.length S rfl h1]
      exact h2
theorem tell_dist (hs : s.Pairwise (· < ·)) {g : List Nat} {d : Nat} (h1 : ∃ S ∈ tellL w s g, S.length = d) (h2 : ∀ S ∈ tellL w s g, d ≤ S.length) : Dist w s g d := by
  obtain ⟨S, h3, h4⟩ := h1
  obtain ⟨h5, h6⟩ := (mem_tellL hs).mp h3
  exact ⟨⟨S, h5, h6, h4⟩, fun S' h7 h8 => h2 S' ((mem_tellL hs).mpr ⟨h7, h8⟩)⟩
theorem mem_peaks (W : WebOk w) (o : SetOk w.length s) {p : Nat} : p ∈ peaksIn w s ↔ p ∈ s ∧ ∀ c ∈ s, hit w c p = false := by
  unfold peaksIn
  rw [List.mem_filter, Bool.not_eq_true', List.any_eq_false]
  constructor
  · rintro ⟨h1, h2⟩
    refine ⟨h1, fun c hc => ?_⟩
    cases q : hit w c p with
    | false => rfl
    | true =>
      have z := h2 c (W.sym c p (o.lt c hc) (hit_fr q))
      rw [decide_eq_true (hit_lt q), List.contains_iff_mem.mpr hc] at z
      exact absurd rfl z
  · rintro ⟨h1, h2⟩
    refine ⟨h1, fun c hc z => ?_⟩
    obtain ⟨z1, z2⟩ := Bool.and_eq_true_iff.mp z
    have q := h2 c (List.contains_iff_mem.mp z2)
    rw [hit_of (of_decide_eq_true z1) (W.sym p c (o.lt p h1) hc)] at q
    cases q
theorem peaks_cov (W : WebOk w) (o : SetOk w.length s) : peaksIn w s = cov w s s :=
  asc_ext (o.asc.sublist List.filter_sublist) (o.asc.sublist (cov_sub _ _ _)) fun x => by rw [mem_peaks W o, mem_cov]
theorem peaks_rch (W : WebOk w) (o : SetOk w.length s) : Rch w s (peaksIn w s) := ⟨s, List.Sublist.refl _, (peaks_cov W o).symm⟩
theorem peaks_in (W : WebOk w) (o : SetOk w.length s) {t : List Nat} (h : Rch w s t) : (peaksIn w s).Sublist t := by
  obtain ⟨S, h1, rfl⟩ := h
  refine sub_of_mem (o.asc.sublist (cov_sub _ _ _)) (o.asc.sublist List.filter_sublist) fun x hx => ?_
  obtain ⟨h2, h3⟩ := (mem_peaks W o).mp hx
  exact mem_cov.mpr ⟨h2, fun c hc => h3 c (h1.subset hc)⟩
theorem peaks_only (W : WebOk w) (o : SetOk w.length s) {t : List Nat} (h : Rch w s t) (hl : t.length ≤ (peaksIn w s).length) : t = peaksIn w s :=
  ((peaks_in W o h).eq_of_length (Nat.le_antisymm (peaks_in W o h).length_le hl)).symm
theorem rch_self : Rch w s s := ⟨[], List.nil_sublist _, cov_nil w s⟩
theorem dist_self : Dist w s s 0 := ⟨⟨[], List.nil_sublist _, cov_nil w s, rfl⟩, fun _ _ _ => Nat.zero_le _⟩
theorem apart_iff {t : List Nat} : apart w t = true ↔ ∀ a ∈ t, ∀ b ∈ t, b ∉ fr w a := by
  unfold apart
  rw [Bool.not_eq_true', List.any_eq_false]
  constructor
  · intro h a ha b hb z
    have q := h a ha
    rw [Bool.not_eq_true, List.any_eq_false] at q
    exact q b hb (List.contains_iff_mem.mpr z)
  · intro h a ha
    rw [Bool.not_eq_true, List.any_eq_false]
    intro b hb z
    exact h a ha b hb (List.contains_iff_mem.mp z)
/-- an end: two things at once -/
def IsEnd (w : Web) (s t : List Nat) : Prop := Rch w s t ∧ apart w t = true
/-- who stands alone stands in an end -/
theorem alone_end (W : WebOk w) (o : SetOk w.length s) {t : List Nat} {p : Nat} (h : Rch w s t) (hp : p ∈ t) (hn : ∀ q ∈ fr w p, q ∉ t) : ∃ e, IsEnd w s e ∧ p ∈ e := by
  have ot : SetOk w.length t := o.sub h.sub
  refine ⟨peaksIn w t, ⟨?_, ?_⟩, ?_⟩
  · obtain ⟨S, h1, h2⟩ := id h
    refine ⟨s.filter fun x => S.contains x || t.contains x, List.filter_sublist, asc_ext (o.asc.sublist (cov_sub _ _ _)) (ot.asc.sublist List.filter_sublist) fun x => ?_⟩
    rw [mem_cov, mem_peaks W ot]
    constructor
    · rintro ⟨hx, hc⟩
      have hxt : x ∈ t := by
        rw [← h2, mem_cov]
        exact ⟨hx, fun c hc' => hc c (List.mem_filter.mpr ⟨h1.subset hc', by rw [List.contains_iff_mem.mpr hc']; rfl⟩)⟩
      exact ⟨hxt, fun c hc' => hc c (List.mem_filter.mpr ⟨h.sub.subset hc', by rw [List.contains_iff_mem.mpr hc', Bool.or_true]⟩)⟩
    · rintro ⟨hxt, hc⟩
      have hx := hxt
      rw [← h2, mem_cov] at hx
      refine ⟨hx.1, fun c hc' => ?_⟩
      obtain ⟨_, h4⟩ := List.mem_filter.mp hc'
      rcases Bool.or_eq_true_iff.mp h4 with z | z
      · exact hx.2 c (List.contains_iff_mem.mp z)
      · exact hc c (List.contains_iff_mem.mp z)
  · rw [apart_iff]
    intro a ha b hb z
    obtain ⟨a1, a2⟩ := (mem_peaks W ot).mp ha
    obtain ⟨b1, b2⟩ := (mem_peaks W ot).mp hb
    have la := ot.lt a a1
    rcases Nat.lt_trichotomy a b with q | q | q
    · have y := a2 b b1
      rw [hit_of q (W.sym a b la z)] at y
      cases y
    · rw [q] at z la
      exact W.irr b la z
    · have y := b2 a a1
      rw [hit_of q z] at y
      cases y
  · refine (mem_peaks W ot).mpr ⟨hp, fun c hc => ?_⟩
    cases q : hit w c p with
    | false => rfl
    | true => exact absurd hc (hn c (W.sym c p (ot.lt c hc) (hit_fr q)))
end

/-! ### the fewest calls to a set that fits -/
def LeastOf (w : Web) (s : List Nat) (f : List Nat → Bool) : Option Nat → Prop
  | none => ∀ t, Rch w s t → f t = false
  | some d => (∃ t, Dist w s t d ∧ f t = true) ∧ ∀ t e, Dist w s t e → f t = true → d ≤ e
theorem LeastOf.inj {w : Web} {s : List Nat} {f : List Nat → Bool} {a b : Option Nat} (h : LeastOf w s f a) (h' : LeastOf w s f b) : a = b := by
  cases a with
  | none =>
    cases b with
    | none => rfl
    | some e =>
      obtain ⟨⟨t, h1, h2⟩, _⟩ := h'
      rw [h t h1.rch] at h2
      cases h2
  | some d =>
    cases b with
    | none =>
      obtain ⟨⟨t, h1, h2⟩, _⟩ := h
      rw [h' t h1.rch] at h2
      cases h2
    | some e =>
      obtain ⟨⟨t, h1, h2⟩, h3⟩ := h
      obtain ⟨⟨t', h1', h2'⟩, h3'⟩ := h'
      have q1 := h3 t' e h1' h2'
      have q2 := h3' t d h1 h2
      rw [Nat.le_antisymm q1 q2]
theorem LeastOf.none_iff {w : Web} {s : List Nat} (hs : s.Pairwise (· < ·)) {f : List Nat → Bool} {r : Option Nat} (h : LeastOf w s f r) : r = none ↔ ¬ ∃ t, Rch w s t ∧ f t = true := by
  cases r with
  | none =>
    refine ⟨fun _ z => ?_, fun _ => rfl⟩
    obtain ⟨t, h1, h2⟩ := z
    rw [h t h1] at h2
    cases h2
  | some d =>
    obtain ⟨⟨t, h1, h2⟩, _⟩ := h
    exact ⟨fun z => (nomatch z), fun z => absurd ⟨t, h1.rch, h2⟩ z⟩
section
variable {w : Web} {s : List Nat}
theorem dist_one {t : List Nat} (h : t ≠ s) {c : Nat} (hc : c ∈ s) (e : cov w s [c] = t) : Dist w s t 1 := by
  refine ⟨⟨[c], List.singleton_sublist.mpr hc, e, rfl⟩, fun S h1 h2 => ?_⟩
  cases S with
  | nil => exact absurd (h2.symm.trans (cov_nil w s)) h
  | cons a S => rw [List.length_cons]; omega
/-- until a person sits -/
theorem sit_least (W : WebOk w) (o : SetOk w.length s) (p : Nat) :
    LeastOf w s (fun t => !t.contains p) (if p ∉ s then some 0 else if p ∈ peaksIn w s then none else some 1) := by
  by_cases h1 : p ∈ s
  · rw [if_neg (fun z => z h1)]
    by_cases h2 : p ∈ peaksIn w s
    · rw [if_pos h2]
      intro t ht
      rw [Bool.not_eq_false', List.contains_iff_mem]
      exact (peaks_in W o ht).subset h2
    · rw [if_neg h2]
      obtain ⟨c, hc, hq⟩ : ∃ c ∈ s, hit w c p = true := Decidable.byContradiction fun hn => h2 ((mem_peaks W o).mpr ⟨h1, fun c hc => by
        cases q : hit w c p with
        | false => rfl
        | true => exact absurd ⟨c, hc, q⟩ hn⟩)
      have hnot : p ∉ cov w s [c] := fun z => by
        have y := (mem_cov.mp z).2 c (by simp)
        rw [hq] at y
        cases y
      refine ⟨⟨cov w s [c], dist_one (fun e => hnot (by rw [e]; exact h1)) hc rfl, ?_⟩, fun t e h3 h4 => ?_⟩
      · simpa using hnot
      · refine Nat.one_le_iff_ne_zero.mpr fun e0 => ?_
        subst e0
        obtain ⟨⟨S, _, h5, h6⟩, _⟩ := h3
        have e : S = [] := List.length_eq_zero_iff.mp h6
        subst e
        rw [cov_nil] at h5
        subst h5
        have h4' : (!s.contains p) = true := h4
        rw [List.contains_iff_mem.mpr h1] at h4'
        cases h4'
  · rw [if_pos h1]
    refine ⟨⟨s, dist_self, by simpa using h1⟩, fun _ _ _ _ => Nat.zero_le _⟩
theorem end_least (W : WebOk w) (o : SetOk w.length s) (p : Nat) {r : Option Nat} (h : LeastOf w s (fun t => t.contains p && apart w t) r) : r = none ↔ ¬ ∃ e, IsEnd w s e ∧ p ∈ e := by
  rw [h.none_iff o.asc]
  refine not_congr ⟨?_, ?_⟩
  · rintro ⟨t, h1, h2⟩
    obtain ⟨h3, h4⟩ := Bool.and_eq_true_iff.mp h2
    exact ⟨t, ⟨h1, h4⟩, List.contains_iff_mem.mp h3⟩
  · rintro ⟨e, ⟨h1, h2⟩, h3⟩
    exact ⟨e, h1, by rw [List.contains_iff_mem.mpr h3, h2]; rfl⟩
theorem alone_least (W : WebOk w) (o : SetOk w.length s) (p : Nat) {r : Option Nat} (h : LeastOf w s (fun t => t.contains p && !((fr w p).any fun q => t.contains q)) r) : r = none ↔ ¬ ∃ e, IsEnd w s e ∧ p ∈ e := by
  rw [h.none_iff o.asc]
  refine not_congr ⟨?_, ?_⟩
  · rintro ⟨t, h1, h2⟩
    obtain ⟨h3, h4⟩ := Bool.and_eq_true_iff.mp h2
    rw [Bool.not_eq_true', List.any_eq_false] at h4
    exact alone_end W o h1 (List.contains_iff_mem.mp h3) fun q hq z => h4 q hq (List.contains_iff_mem.mpr z)
  · rintro ⟨e, ⟨h1, h2⟩, h3⟩
    refine ⟨e, h1, ?_⟩
    rw [List.contains_iff_mem.mpr h3, Bool.true_and, Bool.not_eq_true', List.any_eq_false]
    intro q hq z
    exact apart_iff.mp h2 p h3 q (List.contains_iff_mem.mp z) hq
/-- the covers of the law -/
def goodL (w : Web) (s people : List Nat) : List (List Nat) := (choices (List.range w.length)).filter fun some =>
  (some.filter fun one => !s.contains one).isEmpty && (people.filter fun one => s.contains one && ((tallerIn w one).filter fun other => some.contains other).isEmpty).isEmpty
theorem mem_goodL (W : WebOk w) (o : SetOk w.length s) {people S : List Nat} (hp : SetOk w.length people) : S ∈ goodL w s people ↔ S.Sublist s ∧ ∀ p ∈ people, p ∉ cov w s S := by
  have asc_range : (List.range w.length).Pairwise (· < ·) := List.pairwise_lt_range
  unfold goodL
  rw [List.mem_filter, choices_mem, Bool.and_eq_true, List.isEmpty_iff, List.isEmpty_iff, List.filter_eq_nil_iff, List.filter_eq_nil_iff]
  constructor
  · rintro ⟨h1, h2, h3⟩
    have hS : S.Sublist s := sub_of_mem o.asc (asc_range.sublist h1) fun x hx => by
      have z := h2 x hx
      simpa using z
    refine ⟨hS, fun p h4 h5 => ?_⟩
    obtain ⟨h6, h7⟩ := mem_cov.mp h5
    have z := h3 p h4
    rw [List.contains_iff_mem.mpr h6, Bool.true_and, List.isEmpty_iff, List.filter_eq_nil_iff] at z
    refine z fun c hc hn => ?_
    have h8 := List.contains_iff_mem.mp hn
    have y := h7 c h8
    rw [(taller_hit W (o.lt p h6) (o.lt c (hS.subset h8))).mp hc] at y
    cases y
  · rintro ⟨h1, h2⟩
    refine ⟨sub_of_mem asc_range (o.asc.sublist h1) fun x hx => List.mem_range.mpr (o.lt x (h1.subset hx)), fun x hx => by simp [h1.subset hx], fun p h3 z => ?_⟩
    obtain ⟨z1, z2⟩ := Bool.and_eq_true_iff.mp z
    rw [List.isEmpty_iff, List.filter_eq_nil_iff] at z2
    have h4 := List.contains_iff_mem.mp z1
    refine h2 p h3 (mem_cov.mpr ⟨h4, fun c hc => ?_⟩)
    cases q : hit w c p with
    | false => rfl
    | true => exact absurd (List.contains_iff_mem.mpr hc) (z2 c ((taller_hit W (o.lt p h4) (o.lt c (h1.subset hc))).mpr q))
theorem sit_all_least (W : WebOk w) (o : SetOk w.length s) {people : List Nat} (hp : SetOk w.length people) {r : Option Nat} (h : LeastOf w s (fun t => !(people.any fun p => t.contains p)) r) :
    (r = none → goodL w s people = []) ∧ ∀ d, r = some d → (∃ S ∈ goodL w s people, S.length = d) ∧ ∀ S ∈ goodL w s people, d ≤ S.length := by
  have key : ∀ t : List Nat, (!(people.any fun p => t.contains p)) = true ↔ ∀ p ∈ people, p ∉ t := fun t => by
    rw [Bool.not_eq_true', List.any_eq_false]
    exact ⟨fun h p hp z => h p hp (List.contains_iff_mem.mpr z), fun h p hp z => h p hp (List.contains_iff_mem.mp z)⟩
  constructor
  · intro e
    subst e
    refine List.eq_nil_iff_forall_not_mem.mpr fun S hS => ?_
    obtain ⟨h1, h2⟩ := (mem_goodL W o hp).mp hS
    have z : (!(people.any fun p => (cov w s S).contains p)) = false := h (cov w s S) ⟨S, h1, rfl⟩
    rw [(key _).mpr h2] at z
    cases z
  · intro d e
    subst e
    obtain ⟨⟨t, h1, h2⟩, h3⟩ := h
    have h2' := (key t).mp h2
    constructor
    · obtain ⟨⟨S, h4, h5, h6⟩, _⟩ := h1
      exact ⟨S, (mem_goodL W o hp).mpr ⟨h4, fun p q => by rw [h5]; exact h2' p q⟩, h6⟩
    · intro S hS
      obtain ⟨h4, h5⟩ := (mem_goodL W o hp).mp hS
      obtain ⟨k, hk⟩ := Rch.dist o.asc ⟨S, h4, rfl⟩
      have h6 := h3 _ k hk ((key _).mpr h5)
      have h7 := hk.2 S h4 rfl
      omega
theorem size_least (W : WebOk w) (o : SetOk w.length s) {d : Nat} (h : Dist w s (peaksIn w s) d) : LeastOf w s (fun t => decide (t.length ≤ (peaksIn w s).length)) (some d) := by
  refine ⟨⟨_, h, by simp⟩, fun t e h1 h2 => ?_⟩
  have et := peaks_only W o h1.rch (of_decide_eq_true h2)
  rw [et] at h1
  rw [h.inj h1]
  exact Nat.le_refl _
theorem size_self : LeastOf w s (fun t => decide (t.length ≤ s.length)) (some 0) := ⟨⟨s, dist_self, by simp⟩, fun _ _ _ _ => Nat.zero_le _⟩
end
end Tm


set_option Elab.async false
set_option linter.all false
set_option maxRecDepth 100000
set_option maxHeartbeats 4000000
/-! What the walks share: how numbers, sets, webs, lists of sets lie in the heap; comprehensions and loops over them; a def as it is called. -/
namespace Ts
open PySem PySem.Spec PyProof.Rows L2 Tm
abbrev nv (n : Nat) : V := .int (n : Int)
abbrev tv (ns : List Nat) : List V := ns.map nv
/-- all tuples stay -/
def Tup (H H' : Hp) : Prop := ∀ a xs, H a = some (.tup xs) → H' a = some (.tup xs)
theorem Tup.refl (H : Hp) : Tup H H := fun _ _ h => h
theorem Tup.trans {H H1 H2 : Hp} (a : Tup H H1) (b : Tup H1 H2) : Tup H H2 := fun c o h => b c o (a c o h)
theorem tup_of {H H' : Hp} (e : Same H H') : Tup H H' := fun a xs h => e a _ h
theorem tup_upd {H : Hp} {D : Addr} {o u : HO} (h : H D = some o) (n : ∀ xs, o ≠ .tup xs) : Tup H (upd H D u) := fun a xs e => by
  rw [upd_ne (ne_of e h (fun z => n xs z.symm))]
  exact e
theorem same_new {H : Hp} {p : Addr} {o : HO} (h : H p = none) : Same H (upd H p o) := fun b u e => by
  rw [upd_ne (ne_of_none e h)]
  exact e
/-- all but one object stay -/
theorem same_but {H H' : Hp} {D : Addr} {o : HO} (hD : H D = none) (e : Same H H') : Same H (upd H' D o) := fun b u h => by
  rw [upd_ne (ne_of_none h hD)]
  exact e b u h
/-- a set of people at v -/
def Ppl (H : Hp) (v : V) (ns : List Nat) : Prop := ∃ a, v = .ref a ∧ H a = some (.tup (tv ns))
theorem Ppl.mono {H H' : Hp} {v : V} {ns : List Nat} (t : Tup H H') (h : Ppl H v ns) : Ppl H' v ns := by
  obtain ⟨a, e, h⟩ := h
  exact ⟨a, e, t _ _ h⟩
theorem paired_mono {α : Type} {R R' : V → α → Prop} (h : ∀ v b, R v b → R' v b) : ∀ {xs : List V} {l : List α}, Paired R xs l → Paired R' xs l
  | _, _, .nil => .nil
  | _, _, .cons r t => .cons (h _ _ r) (paired_mono h t)
theorem paired_at {α : Type} {R : V → α → Prop} : ∀ {xs : List V} {l : List α} {i : Nat} {x : V}, Paired R xs l → xs[i]? = some x → ∃ c, l[i]? = some c ∧ R x c
  | _, _, _, _, .nil, e => by simp at e
  | _, _, 0, _, .cons r _, e => by simp at e; subst e; exact ⟨_, rfl, r⟩
  | _, _, i + 1, x, .cons _ t, e => by
    obtain ⟨u, h1, h2⟩ := paired_at (i := i) (x := x) t (by simpa using e)
    exact ⟨u, by simpa using h1, h2⟩
theorem paired_get {α : Type} {R : V → α → Prop} : ∀ {xs : List V} {l : List α} {i : Nat} {c : α}, Paired R xs l → l[i]? = some c → ∃ x, xs[i]? = some x ∧ R x c
  | _, _, _, _, .nil, e => by simp at e
  | _, _, 0, _, .cons r _, e => by simp at e; subst e; exact ⟨_, rfl, r⟩
  | _, _, i + 1, x, .cons _ t, e => by
    obtain ⟨u, h1, h2⟩ := paired_get (i := i) (c := x) t (by simpa using e)
    exact ⟨u, by simpa using h1, h2⟩
theorem paired_len {α : Type} {R : V → α → Prop} {xs : List V} {l : List α} (h : Paired R xs l) : xs.length = l.length := Paired.length h
theorem paired_snoc {α : Type} {R : V → α → Prop} {x : V} {c : α} (r : R x c) : ∀ {xs : List V} {l : List α}, Paired R xs l → Paired R (xs ++ [x]) (l ++ [c])
  | _, _, .nil => .cons r .nil
  | _, _, .cons q t => .cons q (paired_snoc r t)
theorem paired_app {α : Type} {R : V → α → Prop} : ∀ {xs ys : List V} {l m : List α}, Paired R xs l → Paired R ys m → Paired R (xs ++ ys) (l ++ m)
  | _, _, _, _, .nil, s => s
  | _, _, _, _, .cons q t, s => .cons q (paired_app t s)
theorem paired_map {α : Type} {R : V → α → Prop} (f : α → V) (h : ∀ c, R (f c) c) : ∀ l : List α, Paired R (l.map f) l
  | [] => .nil
  | c :: l => .cons (h c) (paired_map f h l)
theorem paired_eq {α : Type} (f : α → V) : ∀ {xs : List V} {l : List α}, Paired (fun v c => v = f c) xs l → xs = l.map f
  | _, _, .nil => rfl
  | _, _, .cons r t => by
    subst r
    rw [paired_eq f t]
    rfl
theorem take_snoc {α : Type} : ∀ {l : List α} {i : Nat} {x : α}, l[i]? = some x → l.take (i + 1) = l.take i ++ [x]
  | [], i, x, h => by simp at h
  | a :: l, 0, x, h => by
    have e : a = x := Option.some.inj h
    subst e
    rfl
  | a :: l, i + 1, x, h => by
    have ih := take_snoc (l := l) (i := i) (x := x) h
    show a :: l.take (i + 1) = a :: l.take i ++ [x]
    rw [ih]
    rfl
/-- a number -/
def NI (_ : Hp) (v : V) (n : Nat) : Prop := v = nv n
def BI (_ : Hp) (v : V) (b : Bool) : Prop := v = .bl b
def WebAt (H : Hp) (v : V) (w : Web) : Prop := ∃ a xs, v = .ref a ∧ H a = some (.tup xs) ∧ Paired (Ppl H) xs w
theorem WebAt.mono {H H' : Hp} {v : V} {w : Web} (t : Tup H H') (h : WebAt H v w) : WebAt H' v w := by
  obtain ⟨a, xs, e, h, p⟩ := h
  exact ⟨a, xs, e, t _ _ h, paired_mono (fun _ _ => Ppl.mono t) p⟩
/-- a list of sets -/
def LstT (H : Hp) (v : V) (l : List (List Nat)) : Prop := ∃ a xs, v = .ref a ∧ H a = some (.lst xs) ∧ Paired (Ppl H) xs l
theorem LstT.mono {H H' : Hp} {v : V} {l : List (List Nat)} (t : Same H H') (h : LstT H v l) : LstT H' v l := by
  obtain ⟨a, xs, e, h, p⟩ := h
  exact ⟨a, xs, e, t _ _ h, paired_mono (fun _ _ => Ppl.mono (tup_of t)) p⟩
theorem web_row {H : Hp} {xs : List V} {w : Web} (p : Paired (Ppl H) xs w) {i : Nat} (hi : i < w.length) : ∃ b, xs[i]? = some (.ref b) ∧ H b = some (.tup (tv (fr w i))) := by
  have e : w[i]? = some (fr w i) := by
    unfold fr
    rw [List.getD_eq_getElem?_getD, List.getElem?_eq_getElem hi]
    rfl
  obtain ⟨x, h1, b, h2, h3⟩ := paired_get p e
  subst h2
  exact ⟨b, h1, h3⟩
/-! ### in -/
theorem inV_nat (p : Nat) : ∀ ns : List Nat, inV (nv p) (tv ns) = ns.contains p
  | [] => rfl
  | n :: ns => by
    have ih := inV_nat p ns
    unfold inV at ih ⊢
    show (eqV (nv n) (nv p) || (tv ns).any fun y => eqV y (nv p)) = (n :: ns).contains p
    rw [ih, List.contains_cons]
    congr 1
    show ((n : Int) == (p : Int)) = (p == n)
    by_cases h : p = n
    · rw [h, beq_self_eq_true, beq_self_eq_true]
    · rw [beq_eq_false_iff_ne.mpr h, beq_eq_false_iff_ne.mpr (by omega : (n : Int) ≠ (p : Int))]
theorem flat_tv (ns : List Nat) : (tv ns).all flatV = true := by
  rw [List.all_map]
  exact List.all_eq_true.mpr fun _ _ => rfl
theorem tv_get {ns : List Nat} {i : Nat} {x : V} (h : (tv ns)[i]? = some x) : ∃ n, ns[i]? = some n ∧ x = nv n := by
  rw [List.getElem?_map] at h
  cases e : ns[i]? with
  | none => rw [e] at h; cases h
  | some n => rw [e] at h; exact ⟨n, rfl, (Option.some.inj h).symm⟩
theorem tv_paired (H : Hp) (ns : List Nat) : Paired (NI H) (tv ns) ns := paired_map nv (fun _ => rfl) ns
/-! ### comprehensions -/
section
variable {α β : Type} {K : PySem.W.Frag} {a : Addr} {xs : List V} {l : List α} {R : Hp → V → α → Prop} {S : Hp → V → β → Prop} {g : TG} {tt : TT} {te : TE} {vs : List Nat} {σ : L2.St} {H1 : Hp} {Q : VK}
/-- what a turn is to bring -/
abbrev TurnOk (g : TG) (tt : TT) (te : TE) (vs : List Nat) (σ : L2.St) (x : V) (H2 : Hp) (N : Hp → Prop) (Kt : VK) : Prop :=
  g x (wipe σ vs) H2 fun σ2 H3 => wipe σ2 vs = wipe σ vs ∧ tt σ2 H3 fun b H4 => if b = true then te σ2 H4 Kt else N H4
/-- behind i turns -/
def LcP (H1 : Hp) (D : Addr) (S : Hp → V → β → Prop) (p : α → Bool) (f : α → β) (l : List α) (i : Nat) (H : Hp) : Prop :=
  Same H1 H ∧ ∃ acc, H D = some (.lst acc) ∧ Paired (S H) acc (((l.take i).filter p).map f)
theorem lc_turn {p : α → Bool} {f : α → β} {D : Addr} (hD : H1 D = none) (hl : l.length ≤ 100000) (hS : ∀ H H' v b, Tup H H' → S H v b → S H' v b) {i : Nat} {c : α} {x : V} {H2 : Hp} (hc : l[i]? = some c) (P : LcP H1 D S p f l i H2)
    (turn : ∀ (N : Hp → Prop) (Kt : VK), (p c = false → ∀ H3, Same H2 H3 → N H3) → (p c = true → ∀ y H3, Same H2 H3 → S H3 y (f c) → Kt y H3) → TurnOk g tt te vs σ x H2 N Kt) :
    g x (wipe σ vs) H2 fun σ2 H3 => wipe σ2 vs = wipe σ vs ∧ tt σ2 H3 fun b H4 => if b = true then te σ2 H4 fun y H5 => ∃ acc, H5 D = some (.lst acc) ∧ acc.length < sizeLine ∧ LcP H1 D S p f l (i + 1) (upd H5 D (.lst (acc ++ [y]))) else LcP H1 D S p f l (i + 1) H4 := by
  obtain ⟨hs, acc, ha, hp⟩ := P
  have ht := take_snoc hc
  refine turn _ _ (fun hq H3 e => ?_) (fun hq y H3 e r => ?_)
  · refine ⟨hs.trans e, acc, e _ _ ha, ?_⟩
    rw [ht, List.filter_append, List.filter_cons_of_neg (by rw [hq]; exact Bool.false_ne_true), List.filter_nil, List.append_nil]
    exact paired_mono (fun v b => hS _ _ v b (tup_of e)) hp
  · have ha3 := e _ _ ha
    have hn : acc.length ≤ l.length := by
      have q := paired_len hp
      rw [List.length_map] at q
      have q2 : ((l.take i).filter p).length ≤ (l.take i).length := List.length_filter_le _ _
      rw [List.length_take] at q2
      omega
    refine ⟨acc, ha3, ?_, same_but hD (hs.trans e), _, upd_same, ?_⟩
    · rw [sizeLine_eq]
      omega
    · rw [ht, List.filter_append, List.filter_cons_of_pos hq, List.filter_nil, List.map_append]
      have tu : Tup H3 (upd H3 D (.lst (acc ++ [y]))) := tup_upd ha3 (fun xs z => by cases z)
      exact paired_snoc (hS _ _ y _ tu r) (paired_mono (fun v b => hS _ _ v b ((tup_of e).trans tu)) hp)
theorem lc_fin {p : α → Bool} {f : α → β} {D : Addr} {H : Hp} {n : Nat} (hn : n = l.length) (P : LcP H1 D S p f l n H) (fin : ∀ ys H2, Same H1 H2 → H2 D = some (.lst ys) → Paired (S H2) ys ((l.filter p).map f) → Q (.ref D) H2) : Q (.ref D) H := by
  obtain ⟨hs, acc, ha, hp⟩ := P
  rw [hn, List.take_length] at hp
  exact fin acc H hs ha hp
theorem lc_zero {p : α → Bool} {f : α → β} {D : Addr} (hD : H1 D = none) : LcP H1 D S p f l 0 (upd H1 D (.lst [])) :=
  ⟨same_new hD, [], upd_same, .nil⟩
/-- over a tuple -/
theorem mapT (p : α → Bool) (f : α → β) (hx : H1 a = some (.tup xs)) (hl : l.length ≤ 100000) (hR : Paired (R H1) xs l) (hRm : ∀ H H' v b, Tup H H' → R H v b → R H' v b) (hS : ∀ H H' v b, Tup H H' → S H v b → S H' v b)
    (turn : ∀ (x : V) (c : α) (H2 : Hp) (N : Hp → Prop) (Kt : VK), c ∈ l → Same H1 H2 → R H2 x c → (p c = false → ∀ H3, Same H2 H3 → N H3) → (p c = true → ∀ y H3, Same H2 H3 → S H3 y (f c) → Kt y H3) → TurnOk g tt te vs σ x H2 N Kt)
    (fin : ∀ D ys H2, H1 D = none → Same H1 H2 → H2 D = some (.lst ys) → Paired (S H2) ys ((l.filter p).map f) → Q (.ref D) H2) :
    ∀ D, H1 D = none → ∃ W : Nat → Nat → Hp → Prop, (∃ m, W 0 m (upd H1 D (.lst []))) ∧ ∀ i m H, W i m H →
      ((Itt K a).stop i H ∧ Q (.ref D) H) ∨ ((Itt K a).go i H ∧ ∃ Nx : Hp → Prop, (∀ H', Nx H' → ∃ m', m' < m ∧ W (i + 1) m' H') ∧ ∀ x H', (Itt K a).yld i H x H' → g x (wipe σ vs) H' fun σ2 H2 => wipe σ2 vs = wipe σ vs ∧ tt σ2 H2 fun b H3 =>
        if b = true then te σ2 H3 fun y H4 => ∃ acc, H4 D = some (.lst acc) ∧ acc.length < sizeLine ∧ Nx (upd H4 D (.lst (acc ++ [y]))) else Nx H3) := fun D hD =>
  lc_tup (K := K) (a := a) (xs := xs) (LcP H1 D S p f l) (lc_zero hD) (fun i H _ P => SqT.of (P.1 _ _ hx)) (fun i x H hi P => by
    obtain ⟨c, h1, h2⟩ := paired_at hR hi
    exact lc_turn hD hl hS h1 P fun N Kt => turn x c H N Kt (List.mem_of_getElem? h1) P.1 (hRm _ _ _ _ (tup_of P.1) h2)) (fun H P => lc_fin (paired_len hR) P (fun ys H2 e h1 h2 => fin D ys H2 hD e h1 h2))
/-- over a list -/
theorem mapL (p : α → Bool) (f : α → β) (hx : H1 a = some (.lst xs)) (hl : l.length ≤ 100000) (hR : Paired (R H1) xs l) (hRm : ∀ H H' v b, Tup H H' → R H v b → R H' v b) (hS : ∀ H H' v b, Tup H H' → S H v b → S H' v b)
    (turn : ∀ (x : V) (c : α) (H2 : Hp) (N : Hp → Prop) (Kt : VK), c ∈ l → Same H1 H2 → R H2 x c → (p c = false → ∀ H3, Same H2 H3 → N H3) → (p c = true → ∀ y H3, Same H2 H3 → S H3 y (f c) → Kt y H3) → TurnOk g tt te vs σ x H2 N Kt)
    (fin : ∀ D ys H2, H1 D = none → Same H1 H2 → H2 D = some (.lst ys) → Paired (S H2) ys ((l.filter p).map f) → Q (.ref D) H2) :
    ∀ D, H1 D = none → ∃ W : Nat → Nat → Hp → Prop, (∃ m, W 0 m (upd H1 D (.lst []))) ∧ ∀ i m H, W i m H →
      ((Itl K a).stop i H ∧ Q (.ref D) H) ∨ ((Itl K a).go i H ∧ ∃ Nx : Hp → Prop, (∀ H', Nx H' → ∃ m', m' < m ∧ W (i + 1) m' H') ∧ ∀ x H', (Itl K a).yld i H x H' → g x (wipe σ vs) H' fun σ2 H2 => wipe σ2 vs = wipe σ vs ∧ tt σ2 H2 fun b H3 =>
        if b = true then te σ2 H3 fun y H4 => ∃ acc, H4 D = some (.lst acc) ∧ acc.length < sizeLine ∧ Nx (upd H4 D (.lst (acc ++ [y]))) else Nx H3) := fun D hD =>
  lc_list (K := K) (a := a) (xs := xs) (LcP H1 D S p f l) (lc_zero hD) (fun i H _ P => SqL.of (P.1 _ _ hx)) (fun i x H hi P => by
    obtain ⟨c, h1, h2⟩ := paired_at hR hi
    exact lc_turn hD hl hS h1 P fun N Kt => turn x c H N Kt (List.mem_of_getElem? h1) P.1 (hRm _ _ _ _ (tup_of P.1) h2)) (fun H P => lc_fin (paired_len hR) P (fun ys H2 e h1 h2 => fin D ys H2 hD e h1 h2))
/-- over range(lo, lo + n) -/
theorem mapR {n : Nat} {lo : Nat} (p : Nat → Bool) (f : Nat → β) (hl : n ≤ 100000) (hS : ∀ H H' v b, Tup H H' → S H v b → S H' v b)
    (turn : ∀ (c : Nat) (H2 : Hp) (N : Hp → Prop) (Kt : VK), lo ≤ c → c < lo + n → Same H1 H2 → (p c = false → ∀ H3, Same H2 H3 → N H3) → (p c = true → ∀ y H3, Same H2 H3 → S H3 y (f c) → Kt y H3) → TurnOk g tt te vs σ (nv c) H2 N Kt)
    (fin : ∀ D ys H2, H1 D = none → Same H1 H2 → H2 D = some (.lst ys) → Paired (S H2) ys (((List.range' lo n).filter p).map f) → Q (.ref D) H2) :
    ∀ D, H1 D = none → ∃ W : Nat → Nat → Hp → Prop, (∃ m, W 0 m (upd H1 D (.lst []))) ∧ ∀ i m H, W i m H →
      ((Itr lo n).stop i H ∧ Q (.ref D) H) ∨ ((Itr lo n).go i H ∧ ∃ Nx : Hp → Prop, (∀ H', Nx H' → ∃ m', m' < m ∧ W (i + 1) m' H') ∧ ∀ x H', (Itr lo n).yld i H x H' → g x (wipe σ vs) H' fun σ2 H2 => wipe σ2 vs = wipe σ vs ∧ tt σ2 H2 fun b H3 =>
        if b = true then te σ2 H3 fun y H4 => ∃ acc, H4 D = some (.lst acc) ∧ acc.length < sizeLine ∧ Nx (upd H4 D (.lst (acc ++ [y]))) else Nx H3) := fun D hD =>
  lc_range (lo := lo) (n := n) (LcP H1 D S p f (List.range' lo n)) (lc_zero hD) (fun i H hi P => by
    have h1 : (List.range' lo n)[i]? = some (lo + i) := by
      rw [List.getElem?_range' hi]
      congr 1
      omega
    have e : ((lo : Int) + (i : Nat)) = ((lo + i : Nat) : Int) := by omega
    rw [e]
    exact lc_turn hD (by rw [List.length_range']; exact hl) hS h1 P fun N Kt => turn (lo + i) H N Kt (by omega) (by omega) P.1) (fun H P => lc_fin (by rw [List.length_range']) P (fun ys H2 e h1 h2 => fin D ys H2 hD e h1 h2))
end
/-! ### a def as it is called -/
structure FnD (K : PySem.W.Frag) (mg : Str → Option Value) (x : Str) (st : Stmt) : Prop where
  ex : ∃ f fd, FnP K x st f fd ∧ mg x = some (.ref f)
structure Fnc (P : Program) (w : World) (K : PySem.W.Frag) (mg : Str → Option Value) (base : Heap) (CX : CXT) (x : Str) (k : Nat) (ps : List Str) (sp : Sp) : Prop where
  ex : ∃ f fd, FnOk P w K mg base CX k f fd ps sp ∧ mg x = some (.ref f) ∧ PySem.W.keepIn K (.ref f) = true ∧ Binds K fd ps []
section
variable {P : Program} {w : World} {K : PySem.W.Frag} {mg : Str → Option Value} {base : Heap}
theorem Fnc.mono {CX : CXT} {x : Str} {j k : Nat} {ps : List Str} {sp : Sp} (F : Fnc P w K mg base CX x j ps sp) (h : j ≤ k) : Fnc P w K mg base CX x k ps sp := by
  obtain ⟨f, fd, G, r⟩ := F.ex
  exact ⟨f, fd, G.mono h, r⟩
theorem fnc_of {CX : CXT} {x : Str} {st : Stmt} {N ps : List Str} {k : Nat} {sp : Sp} (F : FnD K mg x st) (S : FnScope N ps (defScope st)) (len : ∀ vs H Q E, sp vs H Q E → vs.length = ps.length)
    (hb : ∀ (kV doc pm : Value) (an : Option Addr) (cdv ct : Value) (us : List Value), us.length = ps.length → bindArgs (PySem.W.fnOf x x (defArgs st) (defBody st) (defScope st) .none kV doc pm an cdv ct) ⟨us, []⟩ = pure (ps.zip us))
    (hbody : ∀ (f : Addr) (cdv : Value) (A : Around) (outer : List Env) (s : Shared) (H : Hp) (vs : List V) (Q : VK) (E : XK), Room k (A.deeper (envOfC x (defScope st) s.heap.objs.size f cdv)) → sp vs H Q E →
      ∃ t, PSs (cxOf CX P w K mg base N x (defScope st) f cdv A outer s H E) (defBody st) t ∧ t { nx := fun _ H' => Q .non H', rt := Q } (start N vs) H) : Fnc P w K mg base CX x (k + 1) ps sp := by
  obtain ⟨f, fd, F, hm⟩ := F.ex
  exact ⟨f, fd, F.ok S len (fun cdv A outer s H vs Q E hr h => hbody f cdv A outer s H vs Q E hr h), hm, F.kp, F.bindsN hb⟩
/-- no exception leaves it -/
theorem fnc0 {x : Str} {st : Stmt} {N ps : List Str} {k : Nat} {sp : Sp} (F : FnD K mg x st) (S : FnScope N ps (defScope st)) (len : ∀ vs H Q E, sp vs H Q E → vs.length = ps.length)
    (hb : ∀ (kV doc pm : Value) (an : Option Addr) (cdv ct : Value) (us : List Value), us.length = ps.length → bindArgs (PySem.W.fnOf x x (defArgs st) (defBody st) (defScope st) .none kV doc pm an cdv ct) ⟨us, []⟩ = pure (ps.zip us))
    (hbody : ∀ (f : Addr) (cdv : Value) (A : Around) (outer : List Env) (s : Shared) (H : Hp) (vs : List V) (Q : VK) (E : XK), Room k (A.deeper (envOfC x (defScope st) s.heap.objs.size f cdv)) → sp vs H Q E →
      ∃ t, PSs (cxOf CX0 P w K mg base N x (defScope st) f cdv A outer s H E).nox (defBody st) t ∧ t { nx := fun _ H' => Q .non H', rt := Q } (start N vs) H) : Fnc P w K mg base CX0 x (k + 1) ps sp :=
  fnc_of F S len hb fun f cdv A outer s H vs Q E hr h => by
    obtain ⟨t, h1, h2⟩ := hbody f cdv A outer s H vs Q E hr h
    exact ⟨t, PSs.nox h1, h2⟩
end
section
variable {X : Cx} {k : Nat} {x : Str} {ps : List Str} {sp : Sp} {p pos : Pos} {e : Expr} {es : List Expr} {t : TA}
theorem pe_fn (F : Fnc X.prog X.w X.K X.mg X.base CX0 x k ps sp) (hr : Room k X.A) (ha : PA X (e :: es) t) (hg : Gl X x := by rfl)
    (hdb : (x == ("__debug__" : Str)) = false := by decide) (he : starEach (e :: es) X.env = (false, eval e X.env) :: starEach es X.env := by rfl) (hpl : (backTo pos (starEach es X.env)).any (·.1) = false := by rfl) :
    PE X (.Call (.Name x p) (e :: es) [] pos) (tCall sp [] E0 t) := by
  obtain ⟨f, fd, G, hm, hk, hb⟩ := F.ex
  exact pe_call G hr hg hm hk hb .nil pass0 ha hdb he hpl
end
/-- the built-in names that the text does not bind -/
structure Bt (mg : Str → Option Value) : Prop where
  isinst : mg "isinstance" = none
  int : mg "int" = none
  bool : mg "bool" = none
  tuple : mg "tuple" = none
  len : mg "len" = none
  enum : mg "enumerate" = none
  all : mg "all" = none
  any : mg "any" = none
  list : mg "list" = none
  sorted : mg "sorted" = none
  set : mg "set" = none
  min : mg "min" = none
  range : mg "range" = none
end Ts


set_option Elab.async false
set_option linter.all false
set_option maxRecDepth 100000
set_option maxHeartbeats 4000000
/-! Readings that many walks share: in, ==, any, all. -/
namespace Ts
open PySem PySem.Spec PyProof.Rows L2 Tm
open StX (tStar pa_star)
/-- an environment of that scope -/
def dEnv (sc : Scope) : Env := { scope := sc, locals := 0, globals := 0, cells := [], qual := "", func := none, code := .none, frame := none, builtins := 0 }
abbrev pI (n : Nat) : PyData := .int (n : Int)
abbrev encT (ns : List Nat) : PyData := .tuple (ns.map pI)
theorem eqv_pI (a b : Nat) : PyData.eqv (pI a) (pI b) = decide (a = b) := by
  rw [PyData.eqv]
  by_cases h : a = b
  · subst h
    simp
  · rw [decide_eq_false h]
    exact beq_eq_false_iff_ne.mpr (by omega)
theorem eqv_pIs : ∀ ns ms : List Nat, PyData.eqvAll (ns.map pI) (ms.map pI) = decide (ns = ms)
  | [], [] => by simp [PyData.eqvAll]
  | [], m :: ms => by simp [PyData.eqvAll]
  | n :: ns, [] => by simp [PyData.eqvAll]
  | n :: ns, m :: ms => by
    rw [List.map_cons, List.map_cons, PyData.eqvAll, eqv_pI, eqv_pIs ns ms]
    by_cases h : n = m
    · by_cases g : ns = ms
      · simp [h, g]
      · simp [h, g]
    · simp [h]
theorem eqv_encT (ns ms : List Nat) : PyData.eqv (encT ns) (encT ms) = decide (ns = ms) := by
  rw [PyData.eqv, eqv_pIs]
theorem eqv_encTs : ∀ l m : List (List Nat), PyData.eqvAll (l.map encT) (m.map encT) = decide (l = m)
  | [], [] => by simp [PyData.eqvAll]
  | [], m :: ms => by simp [PyData.eqvAll]
  | n :: ns, [] => by simp [PyData.eqvAll]
  | n :: ns, m :: ms => by
    rw [List.map_cons, List.map_cons, PyData.eqvAll, eqv_encT, eqv_encTs ns ms]
    by_cases h : n = m
    · by_cases g : ns = ms
      · simp [h, g]
      · simp [h, g]
    · simp [h]
theorem can_pIs : ∀ ns : List Nat, PyData.canLayAll0 (ns.map pI) = true
  | [] => by simp [PyData.canLayAll0]
  | n :: ns => by simp [PyData.canLayAll0, PyData.canLay0, can_pIs ns]
theorem dep_pIs : ∀ ns : List Nat, PyData.depthAll (ns.map pI) = 0
  | [] => by simp [PyData.depthAll]
  | n :: ns => by simp [PyData.depthAll, PyData.depth, dep_pIs ns]
theorem can_encTs : ∀ l : List (List Nat), PyData.canLayAll0 (l.map encT) = true
  | [] => by simp [PyData.canLayAll0]
  | n :: ns => by simp [PyData.canLayAll0, PyData.canLay0, can_pIs n, can_encTs ns]
theorem dep_encTs : ∀ l : List (List Nat), PyData.depthAll (l.map encT) ≤ 1
  | [] => by simp [PyData.depthAll]
  | n :: ns => by
    rw [List.map_cons, PyData.depthAll, PyData.depth, dep_pIs]
    exact Nat.max_le.mpr ⟨Nat.le_refl _, dep_encTs ns⟩
theorem shaped_encT (ns : List Nat) : SeqAt.shaped (encT ns) = true := by
  unfold SeqAt.shaped
  rw [PyData.canLay0, PyData.depth, can_pIs, dep_pIs]
  rfl
theorem shaped_encL (ns : List Nat) : SeqAt.shaped (.list (ns.map pI)) = true := by
  unfold SeqAt.shaped
  rw [PyData.canLay0, PyData.depth, can_pIs, dep_pIs]
  rfl
theorem shaped_encTs (l : List (List Nat)) : SeqAt.shaped (.list (l.map encT)) = true := by
  unfold SeqAt.shaped
  rw [PyData.canLay0, PyData.depth, can_encTs]
  have := dep_encTs l
  simp
  omega
theorem shaped_pI (n : Nat) : SeqAt.shaped (pI n) = true := by
  unfold SeqAt.shaped
  rw [PyData.canLay0, PyData.depth]
  rfl
theorem shaped_none : SeqAt.shaped .none = true := by
  unfold SeqAt.shaped
  rw [PyData.canLay0, PyData.depth]
  rfl
section
variable {K : PySem.W.Frag} {H : Hp}
theorem dpAll_tv : ∀ ns : List Nat, DpAll K H (tv ns) (ns.map pI)
  | [] => .nil
  | n :: ns => .cons (.int _) (dpAll_tv ns)
theorem dp_ppl {v : V} {ns : List Nat} (h : Ppl H v ns) : Dp K H v (encT ns) := by
  obtain ⟨a, rfl, h⟩ := h
  exact .tup (SqT.of h) (dpAll_tv ns)
theorem dp_tup {a : Addr} {ns : List Nat} (h : H a = some (.tup (tv ns))) : Dp K H (.ref a) (encT ns) := .tup (SqT.of h) (dpAll_tv ns)
theorem dp_lst {a : Addr} {ns : List Nat} (h : H a = some (.lst (tv ns))) : Dp K H (.ref a) (.list (ns.map pI)) := .lst (SqL.of h) (dpAll_tv ns)
theorem dpAll_ppl : ∀ {xs : List V} {l : List (List Nat)}, Paired (Ppl H) xs l → DpAll K H xs (l.map encT)
  | _, _, .nil => .nil
  | _, _, .cons r t => .cons (dp_ppl r) (dpAll_ppl t)
theorem dp_lstT {v : V} {l : List (List Nat)} (h : LstT H v l) : Dp K H v (.list (l.map encT)) := by
  obtain ⟨a, xs, rfl, h, p⟩ := h
  exact .lst (SqL.of h) (dpAll_ppl p)
variable {Q : VK}
theorem rIn_nat {p : Nat} {a : Addr} {ns : List Nat} (h : H a = some (.tup (tv ns))) (q : Q (.bl (ns.contains p)) H) : rIn K false (nv p) (.ref a) H Q := by
  refine ⟨a, tv ns, rfl, .inr (SqT.of h), rfl, flat_tv ns, ?_⟩
  show Q (.bl (inV (nv p) (tv ns))) H
  rw [inV_nat]
  exact q
theorem rNotIn_nat {p : Nat} {a : Addr} {ns : List Nat} (h : H a = some (.tup (tv ns))) (q : Q (.bl (!ns.contains p)) H) : rIn K true (nv p) (.ref a) H Q := by
  refine ⟨a, tv ns, rfl, .inr (SqT.of h), rfl, flat_tv ns, ?_⟩
  show Q (.bl (!inV (nv p) (tv ns))) H
  rw [inV_nat]
  exact q
theorem rEq_ppl {v u : V} {ns ms : List Nat} (h : Ppl H v ns) (g : Ppl H u ms) (q : Q (.bl (decide (ns = ms))) H) : rEqD K v u H Q := ⟨_, _, dp_ppl h, dp_ppl g, shaped_encT _, shaped_encT _, by rw [eqv_encT]; exact q⟩
theorem rNe_ppl {v u : V} {ns ms : List Nat} (h : Ppl H v ns) (g : Ppl H u ms) (q : Q (.bl (!decide (ns = ms))) H) : rNeD K v u H Q := ⟨_, _, dp_ppl h, dp_ppl g, shaped_encT _, shaped_encT _, by rw [eqv_encT]; exact q⟩
theorem rEq_lst {a b : Addr} {ns ms : List Nat} (h : H a = some (.lst (tv ns))) (g : H b = some (.lst (tv ms))) (q : Q (.bl (decide (ns = ms))) H) : rEqD K (.ref a) (.ref b) H Q :=
  ⟨_, _, dp_lst h, dp_lst g, shaped_encL _, shaped_encL _, by rw [PyData.eqv, eqv_pIs]; exact q⟩
theorem rNe_lst {a b : Addr} {ns ms : List Nat} (h : H a = some (.lst (tv ns))) (g : H b = some (.lst (tv ms))) (q : Q (.bl (!decide (ns = ms))) H) : rNeD K (.ref a) (.ref b) H Q :=
  ⟨_, _, dp_lst h, dp_lst g, shaped_encL _, shaped_encL _, by rw [PyData.eqv, eqv_pIs]; exact q⟩
theorem rEq_lstT {v u : V} {l m : List (List Nat)} (h : LstT H v l) (g : LstT H u m) (q : Q (.bl (decide (l = m))) H) : rEqD K v u H Q := ⟨_, _, dp_lstT h, dp_lstT g, shaped_encTs _, shaped_encTs _, by rw [PyData.eqv, eqv_encTs]; exact q⟩
theorem rNe_lstT {v u : V} {l m : List (List Nat)} (h : LstT H v l) (g : LstT H u m) (q : Q (.bl (!decide (l = m))) H) : rNeD K v u H Q := ⟨_, _, dp_lstT h, dp_lstT g, shaped_encTs _, shaped_encTs _, by rw [PyData.eqv, eqv_encTs]; exact q⟩
theorem any_encT (p : List Nat) : ∀ l : List (List Nat), ((l.map encT).any fun z => PyData.eqv z (encT p)) = l.contains p
  | [] => rfl
  | n :: l => by
    rw [List.map_cons, List.any_cons, any_encT p l, List.contains_cons, eqv_encT]
    congr 1
    by_cases h : n = p
    · simp [h]
    · rw [decide_eq_false h]
      exact (beq_eq_false_iff_ne.mpr fun z => h z.symm).symm
theorem rIn_lstT {v u : V} {p : List Nat} {l : List (List Nat)} (h : Ppl H v p) (g : LstT H u l) (q : Q (.bl (l.contains p)) H) : rInD K v u H Q := ⟨_, _, dp_ppl h, dp_lstT g, shaped_encT _, shaped_encTs _, by rw [any_encT]; exact q⟩
theorem rNotIn_lstT {v u : V} {p : List Nat} {l : List (List Nat)} (h : Ppl H v p) (g : LstT H u l) (q : Q (.bl (!l.contains p)) H) : rNotInD K v u H Q := ⟨_, _, dp_ppl h, dp_lstT g, shaped_encT _, shaped_encTs _, by rw [any_encT]; exact q⟩
end
def rLen (K : PySem.W.Frag) : List V → Hp → VK → Prop := fun xs H Q => ∃ p ys, xs = [.ref p] ∧ (SqL K H p ys ∨ SqT K H p ys) ∧ Q (.int ys.length) H
def rList (K : PySem.W.Frag) : List V → Hp → VK → Prop := fun xs H Q => ∃ p ys, xs = [.ref p] ∧ (SqL K H p ys ∨ SqT K H p ys) ∧ ∀ l, H l = none → Q (.ref l) (upd H l (.lst ys))
def rTuple (K : PySem.W.Frag) : List V → Hp → VK → Prop := fun xs H Q => ∃ p ys, xs = [.ref p] ∧ ((SqL K H p ys ∧ ∀ l, H l = none → Q (.ref l) (upd H l (.tup ys))) ∨ (SqT K H p ys ∧ Q (.ref p) H))
section
variable {te ta to : TE} {t tr : TA} {r : List V → Hp → VK → Prop} {D : Ends} {σ : L2.St} {H : Hp} {Q : VK} {g : TG} {ts us : TS} {Qb : Bool → Hp → Prop}
theorem un_ret (h : te σ H D.rt) : tRet te D σ H := h
theorem un_cb (h : t σ H fun vs H1 => r vs H1 Q) : tCB r t σ H Q := h
theorem un_cons {Q' : List V → Hp → Prop} (h : ta σ H fun x H1 => tr σ H1 fun xs H2 => Q' (x :: xs) H2) : tCons ta tr σ H Q' := h
theorem un_asg (h : te σ H fun x H1 => g x σ H1 D.nx) : tAsg te g D σ H := h
theorem un_seq (h : ts { D with nx := us D } σ H) : tSeq ts us D σ H := h
theorem un_b (h : te σ H fun x H1 => ∃ c, x = .bl c ∧ Qb c H1) : tB te σ H Qb := h
end
theorem pa_starK {X : Cx} {K : PySem.W.Frag} {e : Expr} {es : List Expr} {te : TE} {t : TA} {p : Pos} (he : PE X e te) (hr : PA X es t) (hK : X.K = K := by rfl) (hs : starEach (.Starred e p :: es) X.env = (true, eval e X.env) :: starEach es X.env := by rfl) : PA X (.Starred e p :: es) (tStar K te t) := by
  subst hK
  exact pa_star he hr hs
/-! ### any([.. for ..]), all([.. for ..]) -/
section
variable {α : Type} {K : PySem.W.Frag} {a : Addr} {xs : List V} {l : List α} {R : Hp → V → α → Prop} {g : TG} {te : TE} {vs : List Nat} {σ : L2.St} {H1 : Hp} {Q : VK}
theorem bi_bools {H : Hp} {ys : List V} {bs : List Bool} (h : Paired (BI H) ys bs) : ys = bs.map V.bl := paired_eq V.bl h
theorem any_map {α : Type} (f : α → Bool) (l : List α) : ((l.filter fun _ => true).map f).any id = l.any f := by
  rw [List.filter_eq_self.mpr (fun _ _ => rfl), List.any_map]
  rfl
theorem all_map {α : Type} (f : α → Bool) (l : List α) : ((l.filter fun _ => true).map f).all id = l.all f := by
  rw [List.filter_eq_self.mpr (fun _ _ => rfl), List.all_map]
  rfl
/-- a turn that tells one bit -/
abbrev BitTurn (g : TG) (te : TE) (vs : List Nat) (σ : L2.St) (x : V) (H2 : Hp) (b : Bool) : Prop :=
  ∀ Kt : VK, (∀ H3, Same H2 H3 → Kt (.bl b) H3) → g x (wipe σ vs) H2 fun σ2 H3 => wipe σ2 vs = wipe σ vs ∧ te σ2 H3 Kt
theorem bit_turn {f : α → Bool} {x : V} {c : α} {H2 : Hp} (t : BitTurn g te vs σ x H2 (f c)) (N : Hp → Prop) (Kt : VK) (h : ∀ y H3, Same H2 H3 → BI H3 y (f c) → Kt y H3) (mono : ∀ {Q Q' : L2.St → Hp → Prop}, (∀ σ H, Q σ H → Q' σ H) → g x (wipe σ vs) H2 Q → g x (wipe σ vs) H2 Q') : TurnOk g tYes te vs σ x H2 N Kt :=
  mono (fun σ2 H3 q => ⟨q.1, by
    show (if true = true then te σ2 H3 Kt else N H3)
    rw [if_pos rfl]
    exact q.2⟩) (t Kt fun H3 e => h _ H3 e rfl)
theorem gName_mono (i : Nat) (x : V) (σ : L2.St) (H : Hp) {Q Q' : L2.St → Hp → Prop} (h : ∀ σ H, Q σ H → Q' σ H) (q : gName i x σ H Q) : gName i x σ H Q' := h _ _ q
abbrev LcBody (J : It) (g : TG) (tt : TT) (te : TE) (vs : List Nat) (σ : L2.St) (H1 : Hp) (Q : VK) : Prop :=
  ∀ D, H1 D = none → ∃ W : Nat → Nat → Hp → Prop, (∃ m, W 0 m (upd H1 D (.lst []))) ∧ ∀ i m H, W i m H →
    (J.stop i H ∧ Q (.ref D) H) ∨ (J.go i H ∧ ∃ Nx : Hp → Prop, (∀ H', Nx H' → ∃ m', m' < m ∧ W (i + 1) m' H') ∧ ∀ x H', J.yld i H x H' → g x (wipe σ vs) H' fun σ2 H2 => wipe σ2 vs = wipe σ vs ∧ tt σ2 H2 fun b H3 =>
      if b = true then te σ2 H3 fun y H4 => ∃ acc, H4 D = some (.lst acc) ∧ acc.length < sizeLine ∧ Nx (upd H4 D (.lst (acc ++ [y]))) else Nx H3)
theorem anyT {i : Nat} (f : α → Bool) (hx : H1 a = some (.tup xs)) (hl : l.length ≤ 100000) (hR : Paired (R H1) xs l) (hRm : ∀ H H' v b, Tup H H' → R H v b → R H' v b)
    (turn : ∀ (x : V) (c : α) (H2 : Hp), c ∈ l → Same H1 H2 → R H2 x c → BitTurn (gName i) te vs σ x H2 (f c)) (fin : ∀ H2, Same H1 H2 → Q (.bl (l.any f)) H2) : LcBody (Itt K a) (gName i) tYes te vs σ H1 (fun x H => rAny K [x] H Q) :=
  mapT (K := K) (S := BI) (Q := fun x H => rAny K [x] H Q) (fun _ => true) f hx hl hR hRm (fun _ _ _ _ _ h => h) (fun x c H2 N Kt hc e r _ k => bit_turn (turn x c H2 hc e r) N Kt (k rfl) (gName_mono _ _ _ _))
    fun D ys H2 hD e hd hp => ⟨D, _, rfl, SqL.of (by rw [← bi_bools hp]; exact hd), by rw [any_map]; exact fin H2 e⟩
theorem allT {i : Nat} (f : α → Bool) (hx : H1 a = some (.tup xs)) (hl : l.length ≤ 100000) (hR : Paired (R H1) xs l) (hRm : ∀ H H' v b, Tup H H' → R H v b → R H' v b)
    (turn : ∀ (x : V) (c : α) (H2 : Hp), c ∈ l → Same H1 H2 → R H2 x c → BitTurn (gName i) te vs σ x H2 (f c)) (fin : ∀ H2, Same H1 H2 → Q (.bl (l.all f)) H2) : LcBody (Itt K a) (gName i) tYes te vs σ H1 (fun x H => rAll K [x] H Q) :=
  mapT (K := K) (S := BI) (Q := fun x H => rAll K [x] H Q) (fun _ => true) f hx hl hR hRm (fun _ _ _ _ _ h => h) (fun x c H2 N Kt hc e r _ k => bit_turn (turn x c H2 hc e r) N Kt (k rfl) (gName_mono _ _ _ _))
    fun D ys H2 hD e hd hp => ⟨D, _, rfl, SqL.of (by rw [← bi_bools hp]; exact hd), by rw [all_map]; exact fin H2 e⟩
theorem anyL {i : Nat} (f : α → Bool) (hx : H1 a = some (.lst xs)) (hl : l.length ≤ 100000) (hR : Paired (R H1) xs l) (hRm : ∀ H H' v b, Tup H H' → R H v b → R H' v b)
    (turn : ∀ (x : V) (c : α) (H2 : Hp), c ∈ l → Same H1 H2 → R H2 x c → BitTurn (gName i) te vs σ x H2 (f c)) (fin : ∀ H2, Same H1 H2 → Q (.bl (l.any f)) H2) : LcBody (Itl K a) (gName i) tYes te vs σ H1 (fun x H => rAny K [x] H Q) :=
  mapL (K := K) (S := BI) (Q := fun x H => rAny K [x] H Q) (fun _ => true) f hx hl hR hRm (fun _ _ _ _ _ h => h) (fun x c H2 N Kt hc e r _ k => bit_turn (turn x c H2 hc e r) N Kt (k rfl) (gName_mono _ _ _ _))
    fun D ys H2 hD e hd hp => ⟨D, _, rfl, SqL.of (by rw [← bi_bools hp]; exact hd), by rw [any_map]; exact fin H2 e⟩
theorem allL {i : Nat} (f : α → Bool) (hx : H1 a = some (.lst xs)) (hl : l.length ≤ 100000) (hR : Paired (R H1) xs l) (hRm : ∀ H H' v b, Tup H H' → R H v b → R H' v b)
    (turn : ∀ (x : V) (c : α) (H2 : Hp), c ∈ l → Same H1 H2 → R H2 x c → BitTurn (gName i) te vs σ x H2 (f c)) (fin : ∀ H2, Same H1 H2 → Q (.bl (l.all f)) H2) : LcBody (Itl K a) (gName i) tYes te vs σ H1 (fun x H => rAll K [x] H Q) :=
  mapL (K := K) (S := BI) (Q := fun x H => rAll K [x] H Q) (fun _ => true) f hx hl hR hRm (fun _ _ _ _ _ h => h) (fun x c H2 N Kt hc e r _ k => bit_turn (turn x c H2 hc e r) N Kt (k rfl) (gName_mono _ _ _ _))
    fun D ys H2 hD e hd hp => ⟨D, _, rfl, SqL.of (by rw [← bi_bools hp]; exact hd), by rw [all_map]; exact fin H2 e⟩
/-! the same as readings -/
/-- tl gives a tuple that holds l -/
abbrev TupSrc (R : Hp → V → α → Prop) (l : List α) (tl : TE) (σ : L2.St) (H : Hp) : Prop := ∀ C : VK, (∀ a xs H1, Same H H1 → H1 a = some (.tup xs) → Paired (R H1) xs l → C (.ref a) H1) → tl σ H C
abbrev LstSrc (R : Hp → V → α → Prop) (l : List α) (tl : TE) (σ : L2.St) (H : Hp) : Prop := ∀ C : VK, (∀ a xs H1, Same H H1 → H1 a = some (.lst xs) → Paired (R H1) xs l → C (.ref a) H1) → tl σ H C
variable {H : Hp} {i : Nat} {tl : TE} {β : Type} {S : Hp → V → β → Prop} {tt : TT}
abbrev LcTurn (R : Hp → V → α → Prop) (S : Hp → V → β → Prop) (l : List α) (p : α → Bool) (f : α → β) (g : TG) (tt : TT) (te : TE) (vs : List Nat) (σ : L2.St) (H : Hp) : Prop :=
  ∀ (x : V) (c : α) (H2 : Hp) (N : Hp → Prop) (Kt : VK), c ∈ l → Same H H2 → R H2 x c → (p c = false → ∀ H3, Same H2 H3 → N H3) → (p c = true → ∀ y H3, Same H2 H3 → S H3 y (f c) → Kt y H3) → TurnOk g tt te vs σ x H2 N Kt
abbrev LcFin (S : Hp → V → β → Prop) (r : List β) (H : Hp) (Q : VK) : Prop := ∀ D ys H2, Same H H2 → H2 D = some (.lst ys) → Paired (S H2) ys r → Q (.ref D) H2
theorem rd_lcT (p : α → Bool) (f : α → β) (hs : TupSrc R l tl σ H) (hl : l.length ≤ 100000) (hRm : ∀ H H' v b, Tup H H' → R H v b → R H' v b) (hS : ∀ H H' v b, Tup H H' → S H v b → S H' v b)
    (turn : LcTurn R S l p f g tt te vs σ H) (fin : LcFin S ((l.filter p).map f) H Q) : tLc (iTup K tl) g tt te vs σ H Q :=
  hs _ fun a xs H1 e ha hp => ⟨a, rfl, ⟨xs, SqT.of ha⟩, mapT (K := K) p f ha hl hp hRm hS (fun x c H2 N Kt hc e2 => turn x c H2 N Kt hc (e.trans e2)) (fun D ys H2 _ e2 => fin D ys H2 (e.trans e2))⟩
theorem rd_lcL (p : α → Bool) (f : α → β) (hs : LstSrc R l tl σ H) (hl : l.length ≤ 100000) (hRm : ∀ H H' v b, Tup H H' → R H v b → R H' v b) (hS : ∀ H H' v b, Tup H H' → S H v b → S H' v b)
    (turn : LcTurn R S l p f g tt te vs σ H) (fin : LcFin S ((l.filter p).map f) H Q) : tLc (iList K tl) g tt te vs σ H Q :=
  hs _ fun a xs H1 e ha hp => ⟨a, rfl, ⟨xs, SqL.of ha⟩, mapL (K := K) p f ha hl hp hRm hS (fun x c H2 N Kt hc e2 => turn x c H2 N Kt hc (e.trans e2)) (fun D ys H2 _ e2 => fin D ys H2 (e.trans e2))⟩
theorem none_of {H H1 : Hp} {D : Addr} (e : Same H H1) (h : H1 D = none) : H D = none := by
  cases z : H D with
  | none => rfl
  | some o =>
    rw [e D _ z] at h
    cases h
theorem rd_lcTN (p : α → Bool) (f : α → β) (hs : TupSrc R l tl σ H) (hl : l.length ≤ 100000) (hRm : ∀ H H' v b, Tup H H' → R H v b → R H' v b) (hS : ∀ H H' v b, Tup H H' → S H v b → S H' v b)
    (turn : LcTurn R S l p f g tt te vs σ H) (fin : ∀ D ys H2, H D = none → Same H H2 → H2 D = some (.lst ys) → Paired (S H2) ys ((l.filter p).map f) → Q (.ref D) H2) : tLc (iTup K tl) g tt te vs σ H Q :=
  hs _ fun a xs H1 e ha hp => ⟨a, rfl, ⟨xs, SqT.of ha⟩, mapT (K := K) p f ha hl hp hRm hS (fun x c H2 N Kt hc e2 => turn x c H2 N Kt hc (e.trans e2)) (fun D ys H2 hn e2 => fin D ys H2 (none_of e hn) (e.trans e2))⟩
/-- all the items -/
theorem rd_mapT (f : α → β) (hs : TupSrc R l tl σ H) (hl : l.length ≤ 100000) (hRm : ∀ H H' v b, Tup H H' → R H v b → R H' v b) (hS : ∀ H H' v b, Tup H H' → S H v b → S H' v b)
    (turn : ∀ (x : V) (c : α) (H2 : Hp) (Kt : VK), c ∈ l → Same H H2 → R H2 x c → (∀ y H3, Same H2 H3 → S H3 y (f c) → Kt y H3) → gName i x (wipe σ vs) H2 fun σ2 H3 => wipe σ2 vs = wipe σ vs ∧ te σ2 H3 Kt) (fin : LcFin S (l.map f) H Q) : tLc (iTup K tl) (gName i) tYes te vs σ H Q :=
  rd_lcT (fun _ => true) f hs hl hRm hS (fun x c H2 N Kt hc e r _ k => gName_mono _ _ _ _ (fun σ2 H3 q => ⟨q.1, by
    show (if true = true then te σ2 H3 Kt else N H3)
    rw [if_pos rfl]
    exact q.2⟩) (turn x c H2 Kt hc e r fun y H3 e2 s => k rfl y H3 e2 s)) (fun D ys H2 e h1 h2 => fin D ys H2 e h1 (by rwa [List.filter_eq_self.mpr (fun _ _ => rfl)] at h2))
theorem rd_mapL (f : α → β) (hs : LstSrc R l tl σ H) (hl : l.length ≤ 100000) (hRm : ∀ H H' v b, Tup H H' → R H v b → R H' v b) (hS : ∀ H H' v b, Tup H H' → S H v b → S H' v b)
    (turn : ∀ (x : V) (c : α) (H2 : Hp) (Kt : VK), c ∈ l → Same H H2 → R H2 x c → (∀ y H3, Same H2 H3 → S H3 y (f c) → Kt y H3) → gName i x (wipe σ vs) H2 fun σ2 H3 => wipe σ2 vs = wipe σ vs ∧ te σ2 H3 Kt) (fin : LcFin S (l.map f) H Q) : tLc (iList K tl) (gName i) tYes te vs σ H Q :=
  rd_lcL (fun _ => true) f hs hl hRm hS (fun x c H2 N Kt hc e r _ k => gName_mono _ _ _ _ (fun σ2 H3 q => ⟨q.1, by
    show (if true = true then te σ2 H3 Kt else N H3)
    rw [if_pos rfl]
    exact q.2⟩) (turn x c H2 Kt hc e r fun y H3 e2 s => k rfl y H3 e2 s)) (fun D ys H2 e h1 h2 => fin D ys H2 e h1 (by rwa [List.filter_eq_self.mpr (fun _ _ => rfl)] at h2))
theorem rd_anyT (f : α → Bool) (hs : TupSrc R l tl σ H) (hl : l.length ≤ 100000) (hRm : ∀ H H' v b, Tup H H' → R H v b → R H' v b)
    (turn : ∀ (x : V) (c : α) (H2 : Hp), c ∈ l → Same H H2 → R H2 x c → BitTurn (gName i) te vs σ x H2 (f c)) (fin : ∀ H2, Same H H2 → Q (.bl (l.any f)) H2) : tCB (rAny K) (tCons (tLc (iTup K tl) (gName i) tYes te vs) tNil) σ H Q :=
  hs _ fun a xs H1 e ha hp => ⟨a, rfl, ⟨xs, SqT.of ha⟩, anyT (K := K) f ha hl hp hRm (fun x c H2 hc e2 => turn x c H2 hc (e.trans e2)) (fun H2 e2 => fin H2 (e.trans e2))⟩
theorem rd_allT (f : α → Bool) (hs : TupSrc R l tl σ H) (hl : l.length ≤ 100000) (hRm : ∀ H H' v b, Tup H H' → R H v b → R H' v b)
    (turn : ∀ (x : V) (c : α) (H2 : Hp), c ∈ l → Same H H2 → R H2 x c → BitTurn (gName i) te vs σ x H2 (f c)) (fin : ∀ H2, Same H H2 → Q (.bl (l.all f)) H2) : tCB (rAll K) (tCons (tLc (iTup K tl) (gName i) tYes te vs) tNil) σ H Q :=
  hs _ fun a xs H1 e ha hp => ⟨a, rfl, ⟨xs, SqT.of ha⟩, allT (K := K) f ha hl hp hRm (fun x c H2 hc e2 => turn x c H2 hc (e.trans e2)) (fun H2 e2 => fin H2 (e.trans e2))⟩
theorem rd_anyL (f : α → Bool) (hs : LstSrc R l tl σ H) (hl : l.length ≤ 100000) (hRm : ∀ H H' v b, Tup H H' → R H v b → R H' v b)
    (turn : ∀ (x : V) (c : α) (H2 : Hp), c ∈ l → Same H H2 → R H2 x c → BitTurn (gName i) te vs σ x H2 (f c)) (fin : ∀ H2, Same H H2 → Q (.bl (l.any f)) H2) : tCB (rAny K) (tCons (tLc (iList K tl) (gName i) tYes te vs) tNil) σ H Q :=
  hs _ fun a xs H1 e ha hp => ⟨a, rfl, ⟨xs, SqL.of ha⟩, anyL (K := K) f ha hl hp hRm (fun x c H2 hc e2 => turn x c H2 hc (e.trans e2)) (fun H2 e2 => fin H2 (e.trans e2))⟩
theorem rd_allL (f : α → Bool) (hs : LstSrc R l tl σ H) (hl : l.length ≤ 100000) (hRm : ∀ H H' v b, Tup H H' → R H v b → R H' v b)
    (turn : ∀ (x : V) (c : α) (H2 : Hp), c ∈ l → Same H H2 → R H2 x c → BitTurn (gName i) te vs σ x H2 (f c)) (fin : ∀ H2, Same H H2 → Q (.bl (l.all f)) H2) : tCB (rAll K) (tCons (tLc (iList K tl) (gName i) tYes te vs) tNil) σ H Q :=
  hs _ fun a xs H1 e ha hp => ⟨a, rfl, ⟨xs, SqL.of ha⟩, allL (K := K) f ha hl hp hRm (fun x c H2 hc e2 => turn x c H2 hc (e.trans e2)) (fun H2 e2 => fin H2 (e.trans e2))⟩
/-! the same, the list known only behind the call that gives it -/
abbrev LstSrcE (R : Hp → V → α → Prop) (PL : List α → Prop) (tl : TE) (σ : L2.St) (H : Hp) : Prop := ∀ C : VK, (∀ l a xs H1, PL l → Same H H1 → H1 a = some (.lst xs) → Paired (R H1) xs l → C (.ref a) H1) → tl σ H C
variable {PL : List α → Prop}
theorem rd_lcLE (p : α → Bool) (f : α → β) (hs : LstSrcE R PL tl σ H) (hl : ∀ l, PL l → l.length ≤ 100000) (hRm : ∀ H H' v b, Tup H H' → R H v b → R H' v b) (hS : ∀ H H' v b, Tup H H' → S H v b → S H' v b)
    (turn : ∀ l, PL l → LcTurn R S l p f g tt te vs σ H) (fin : ∀ l, PL l → LcFin S ((l.filter p).map f) H Q) : tLc (iList K tl) g tt te vs σ H Q :=
  hs _ fun l a xs H1 pl e ha hp => ⟨a, rfl, ⟨xs, SqL.of ha⟩, mapL (K := K) p f ha (hl l pl) hp hRm hS (fun x c H2 N Kt hc e2 => turn l pl x c H2 N Kt hc (e.trans e2)) (fun D ys H2 _ e2 => fin l pl D ys H2 (e.trans e2))⟩
theorem rd_mapLE (f : α → β) (hs : LstSrcE R PL tl σ H) (hl : ∀ l, PL l → l.length ≤ 100000) (hRm : ∀ H H' v b, Tup H H' → R H v b → R H' v b) (hS : ∀ H H' v b, Tup H H' → S H v b → S H' v b)
    (turn : ∀ l, PL l → ∀ (x : V) (c : α) (H2 : Hp) (Kt : VK), c ∈ l → Same H H2 → R H2 x c → (∀ y H3, Same H2 H3 → S H3 y (f c) → Kt y H3) → gName i x (wipe σ vs) H2 fun σ2 H3 => wipe σ2 vs = wipe σ vs ∧ te σ2 H3 Kt) (fin : ∀ l, PL l → LcFin S (l.map f) H Q) : tLc (iList K tl) (gName i) tYes te vs σ H Q :=
  rd_lcLE (fun _ => true) f hs hl hRm hS (fun l pl x c H2 N Kt hc e r _ k => gName_mono _ _ _ _ (fun σ2 H3 q => ⟨q.1, by
    show (if true = true then te σ2 H3 Kt else N H3)
    rw [if_pos rfl]
    exact q.2⟩) (turn l pl x c H2 Kt hc e r fun y H3 e2 s => k rfl y H3 e2 s)) (fun l pl D ys H2 e h1 h2 => fin l pl D ys H2 e h1 (by rwa [List.filter_eq_self.mpr (fun _ _ => rfl)] at h2))
theorem rd_anyLE (f : α → Bool) (hs : LstSrcE R PL tl σ H) (hl : ∀ l, PL l → l.length ≤ 100000) (hRm : ∀ H H' v b, Tup H H' → R H v b → R H' v b)
    (turn : ∀ l, PL l → ∀ (x : V) (c : α) (H2 : Hp), c ∈ l → Same H H2 → R H2 x c → BitTurn (gName i) te vs σ x H2 (f c)) (fin : ∀ l, PL l → ∀ H2, Same H H2 → Q (.bl (l.any f)) H2) : tCB (rAny K) (tCons (tLc (iList K tl) (gName i) tYes te vs) tNil) σ H Q :=
  hs _ fun l a xs H1 pl e ha hp => ⟨a, rfl, ⟨xs, SqL.of ha⟩, anyL (K := K) f ha (hl l pl) hp hRm (fun x c H2 hc e2 => turn l pl x c H2 hc (e.trans e2)) (fun H2 e2 => fin l pl H2 (e.trans e2))⟩
/-- a set at a slot -/
theorem src_ppl {σ : L2.St} {H : Hp} {j : Nat} {a : Addr} {s : List Nat} (hj : σ[j]? = some (some (.ref a))) (ha : H a = some (.tup (tv s))) : TupSrc NI s (tVar j) σ H := fun C k => ⟨_, hj, k a (tv s) H (Same.refl _) ha (tv_paired _ _)⟩
/-- a list of sets at a slot -/
theorem src_lst {σ : L2.St} {H : Hp} {j : Nat} {v : V} {l : List (List Nat)} (hj : σ[j]? = some (some v)) (h : LstT H v l) : LstSrc Ppl l (tVar j) σ H := fun C k => by
  obtain ⟨a, xs, rfl, ha, hp⟩ := h
  exact ⟨_, hj, k a xs H (Same.refl _) ha hp⟩
/-- web[p], web and p at slots -/
theorem src_row {σ : L2.St} {H : Hp} {j k p : Nat} {v : V} {w : Web} (hj : σ[j]? = some (some v)) (hk : σ[k]? = some (some (nv p))) (hw : WebAt H v w) (hp : p < w.length) : TupSrc NI (fr w p) (tOp (rIxT K) (tVar j) (tVar k)) σ H := fun C q => by
  obtain ⟨a, xs, rfl, ha, hx⟩ := hw
  obtain ⟨b, h1, h2⟩ := web_row hx hp
  exact ⟨_, hj, _, hk, a, xs, (p : Int), _, rfl, rfl, SqT.of ha, atI_nat h1, q b _ H (Same.refl _) h2 (tv_paired _ _)⟩
theorem ni_up : ∀ (H H' : Hp) (v : V) (b : Nat), Tup H H' → NI H v b → NI H' v b := fun _ _ _ _ _ h => h
theorem ppl_up : ∀ (H H' : Hp) (v : V) (b : List Nat), Tup H H' → Ppl H v b → Ppl H' v b := fun _ _ _ _ t h => h.mono t
end
theorem br {b c : Bool} (e : b = c) {A B : Prop} (hT : c = true → A) (hF : c = false → B) : if b = true then A else B := by
  subst e
  cases b with
  | true => exact iteT (hT rfl)
  | false => exact iteF (hF rfl)
theorem flt_pos {α : Type} {l : List α} {i : Nat} {c : α} {p : α → Bool} (hc : l[i]? = some c) (hp : p c = true) : (l.take (i + 1)).filter p = (l.take i).filter p ++ [c] := by
  rw [take_snoc hc, List.filter_append, List.filter_cons_of_pos hp, List.filter_nil]
theorem flt_neg {α : Type} {l : List α} {i : Nat} {c : α} {p : α → Bool} (hc : l[i]? = some c) (hp : p c = false) : (l.take (i + 1)).filter p = (l.take i).filter p := by
  rw [take_snoc hc, List.filter_append, List.filter_cons_of_neg (by rw [hp]; exact Bool.false_ne_true), List.filter_nil, List.append_nil]
theorem flt_len {α : Type} (l : List α) (i : Nat) (p : α → Bool) : ((l.take i).filter p).length ≤ l.length := by
  have h1 : ((l.take i).filter p).length ≤ (l.take i).length := List.length_filter_le _ _
  rw [List.length_take] at h1
  omega
theorem fm_len {α β : Type} (f : α → List β) (n : Nat) : ∀ l : List α, (∀ c ∈ l, (f c).length ≤ n) → (l.flatMap f).length ≤ l.length * n
  | [], _ => by simp
  | c :: l, h => by
    have ih := fm_len f n l fun c hc => h c (List.mem_cons_of_mem _ hc)
    have h1 := h c List.mem_cons_self
    rw [List.flatMap_cons, List.length_append, List.length_cons, Nat.succ_mul]
    omega
theorem anyfm (f : Nat → Nat → Bool) (l : List Nat) : ∀ m : List Nat, (m.flatMap fun c => l.map (f c)).any id = m.any fun c => l.any (f c)
  | [] => rfl
  | c :: m => by
    rw [List.flatMap_cons, List.any_append, anyfm f l m, List.any_cons, List.any_map]
    rfl
/-- any([.. for one in s for other in s]) -/
theorem rd_any2T {K : PySem.W.Frag} {l : List Nat} {a : Addr} {jx i1 i2 : Nat} {te : TE} {vs vs1 : List Nat} {σ : L2.St} {H : Hp} {Q : VK} (f : Nat → Nat → Bool) (hj : σ[jx]? = some (some (.ref a))) (ha : H a = some (.tup (tv l))) (hl : l.length ≤ 100)
    (h1 : ∀ x, wipe ((wipe σ vs).set i1 (some x)) vs = wipe σ vs) (h2 : ∀ x y, wipe ((wipe ((wipe σ vs).set i1 (some x)) vs1).set i2 (some y)) vs1 = wipe ((wipe σ vs).set i1 (some x)) vs1) (h3 : ∀ x, ((wipe σ vs).set i1 (some x))[jx]? = some (some (.ref a)))
    (turn : ∀ (one other : Nat) (H2 : Hp), one ∈ l → other ∈ l → Same H H2 → ∀ Kt : VK, (∀ H3, Same H2 H3 → Kt (.bl (f one other)) H3) → te ((wipe ((wipe σ vs).set i1 (some (nv one))) vs1).set i2 (some (nv other))) H2 Kt)
    (fin : ∀ H2, Same H H2 → Q (.bl (l.any fun one => l.any fun other => f one other)) H2) :
    tCB (rAny K) (tCons (tLc2 (iTup K (tVar jx)) (gName i1) tYes (iTup K (tVar jx)) (gName i2) tYes te vs vs1) tNil) σ H Q := by
  refine ⟨_, hj, a, rfl, ⟨_, SqT.of ha⟩, fun D hD => ?_⟩
  refine ⟨fun i m H' => m = l.length - i ∧ i ≤ l.length ∧ Same H H' ∧ ∃ acc, H' D = some (.lst acc) ∧ Paired (BI H') acc ((l.take i).flatMap fun c => l.map (f c)), ⟨l.length, by simp, Nat.zero_le _, same_new hD, [], upd_same, .nil⟩, ?_⟩
  rintro i m H1 ⟨rfl, hi, e1, acc, hacc, hp⟩
  have ha1 := e1 _ _ ha
  have htl : (tv l).length = l.length := List.length_map ..
  by_cases hlt : i < l.length
  · refine .inr ⟨⟨_, (tv l)[i]'(by rw [htl]; exact hlt), SqT.of ha1, List.getElem?_eq_getElem _⟩, fun H' => i + 1 ≤ l.length ∧ Same H H' ∧ ∃ acc, H' D = some (.lst acc) ∧ Paired (BI H') acc ((l.take (i + 1)).flatMap fun c => l.map (f c)), fun H' p' => ⟨l.length - (i + 1), by omega, rfl, p'⟩, fun x H' y => ?_⟩
    obtain ⟨rfl, y⟩ := y
    obtain ⟨one, ho, rfl⟩ := tv_get (y _ (SqT.of ha1))
    have hm1 : one ∈ l := List.mem_of_getElem? ho
    refine ⟨h1 _, ?_⟩
    dsimp only [tYes]
    rw [if_pos rfl]
    refine ⟨_, h3 _, a, rfl, ⟨_, SqT.of ha1⟩, ?_⟩
    refine ⟨fun j k H2 => k = l.length - j ∧ j ≤ l.length ∧ Same H H2 ∧ ∃ acc, H2 D = some (.lst acc) ∧ Paired (BI H2) acc (((l.take i).flatMap fun c => l.map (f c)) ++ (l.take j).map (f one)), ⟨l.length, by simp, Nat.zero_le _, e1, acc, hacc, by simpa using hp⟩, ?_⟩
    rintro j k H2 ⟨rfl, hj2, e2, acc2, hacc2, hp2⟩
    have ha2 := e2 _ _ ha
    by_cases hlt2 : j < l.length
    · refine .inr ⟨⟨_, (tv l)[j]'(by rw [htl]; exact hlt2), SqT.of ha2, List.getElem?_eq_getElem _⟩, fun H3 => j + 1 ≤ l.length ∧ Same H H3 ∧ ∃ acc, H3 D = some (.lst acc) ∧ Paired (BI H3) acc (((l.take i).flatMap fun c => l.map (f c)) ++ (l.take (j + 1)).map (f one)), fun H' p' => ⟨l.length - (j + 1), by omega, rfl, p'⟩, fun x2 H3 y2 => ?_⟩
      obtain ⟨rfl, y2⟩ := y2
      obtain ⟨other, ho2, rfl⟩ := tv_get (y2 _ (SqT.of ha2))
      have hm2 : other ∈ l := List.mem_of_getElem? ho2
      refine ⟨h2 _ _, ?_⟩
      dsimp only [tYes]
      rw [if_pos rfl]
      refine (turn one other _ hm1 hm2 e2 _ fun H4 e4 => ?_)
      have hacc4 := e4 _ _ hacc2
      have n1 := paired_len hp2
      have n2 := fm_len (fun c => l.map (f c)) 100 (l.take i) fun c _ => by rw [List.length_map]; exact hl
      rw [List.length_append, List.length_map, List.length_take] at n1
      rw [List.length_take] at n2
      have n3 : min i l.length ≤ 100 := by omega
      have n4 : min i l.length * 100 ≤ 100 * 100 := Nat.mul_le_mul_right _ n3
      refine ⟨acc2, hacc4, by rw [sizeLine_eq]; omega, hlt2, fun b o q => ?_, _, upd_same, ?_⟩
      · rw [upd_ne (ne_of_none q hD)]
        exact e4 _ _ (e2 _ _ q)
      · have e : ((l.take i).flatMap fun c => l.map (f c)) ++ (l.take (j + 1)).map (f one) = (((l.take i).flatMap fun c => l.map (f c)) ++ (l.take j).map (f one)) ++ [f one other] := by
          rw [take_snoc ho2, List.map_append, List.append_assoc]
          rfl
        rw [e]
        exact paired_snoc (R := BI _) rfl (paired_mono (R := BI _) (R' := BI _) (fun _ _ q => q) hp2)
    · have e : j = l.length := by omega
      subst e
      refine .inl ⟨⟨_, SqT.of ha2, by rw [htl]; exact Nat.le_refl _⟩, hlt, e2, acc2, hacc2, ?_⟩
      rw [take_snoc ho, List.flatMap_append, List.flatMap_cons, List.flatMap_nil, List.append_nil]
      rw [List.take_length] at hp2
      exact hp2
  · have e : i = l.length := by omega
    subst e
    rw [List.take_length] at hp
    refine .inl ⟨⟨_, SqT.of ha1, by rw [htl]; exact Nat.le_refl _⟩, D, _, rfl, SqL.of (by rw [← bi_bools hp]; exact hacc), ?_⟩
    rw [anyfm]
    exact fin _ e1
theorem SetOk.len {n : Nat} {s : List Nat} (o : Tm.SetOk n s) : s.length ≤ n := by
  have h := Tm.nodup_len (D := List.range n) (Tm.asc_nodup o.asc) fun x hx => List.mem_range.mpr (o.lt x hx)
  rwa [List.length_range] at h
end Ts


set_option Elab.async false
set_option linter.all false
set_option maxRecDepth 100000
set_option maxHeartbeats 4000000
namespace Ts
open PySem PySem.Spec PyProof.Rows L2 Tm
section
variable {P : Program} {w : World} {K : PySem.W.Frag} {mg : Str → Option Value} {base : Heap}
def spIsInteger : Sp := fun vs H Q _ => ∃ i, vs = [.int i] ∧ Q (.bl true) H
theorem scIsInteger : FnScope ["value"] ["value"] (defScope sIsInteger) := ⟨rfl, rfl, rfl, by decide +kernel, rfl, by decide +kernel, by decide +kernel⟩
theorem ok_is_integer (F : FnD K mg "is_integer" sIsInteger) (B : Bt mg) : Fnc P w K mg base CX0 "is_integer" 1 ["value"] spIsInteger := by
  refine fnc0 F scIsInteger (fun vs H Q E h => ?_) (fun _ _ _ _ _ _ us hl => match us, hl with | [_], _ => rfl) (fun f cdv A outer s H vs Q E hr h => ?_)
  · obtain ⟨i, rfl, _⟩ := h
    rfl
  · obtain ⟨i, rfl, k⟩ := h
    refine ⟨_, pss_one (ps_ret (pe_and (pe_callB call_isi (by rfl) B.isinst boot_isinstance (pa_cons (pv 0) (pa_cons (pe_bltn (v := .ty "int") (by rfl) B.int boot_int rfl) pa_nil)))
      (pe_one (pe_not (pe_callB call_isi (by rfl) B.isinst boot_isinstance (pa_cons (pv 0) (pa_cons (pe_bltn (v := .ty "bool") (by rfl) B.bool boot_bool rfl) pa_nil))))))), ?_⟩
    refine ⟨_, rfl, _, _, .type "int", .type "int", true, rfl, .ty "int", .base (.int i), kit_ty (by decide +kernel), _, rfl, ?_⟩
    refine iteT ?_
    exact ⟨_, rfl, _, _, .type "int", .type "bool", false, rfl, .ty "bool", .base (.int i), kit_ty (by decide +kernel), _, rfl, k⟩
def spIsIn : Sp := fun vs H Q _ => ∃ i lo hi, vs = [.int i, .int lo, .int hi] ∧ lo ≤ i ∧ i ≤ hi ∧ Q (.bl true) H
theorem scIsIn : FnScope ["value", "least", "most"] ["value", "least", "most"] (defScope sIsIn) := ⟨rfl, rfl, rfl, by decide +kernel, rfl, by decide +kernel, by decide +kernel⟩
theorem ok_is_in (F : FnD K mg "is_in" sIsIn) (B : Bt mg) (g1 : Fnc P w K mg base CX0 "is_integer" 1 ["value"] spIsInteger) : Fnc P w K mg base CX0 "is_in" 2 ["value", "least", "most"] spIsIn := by
  refine fnc0 F scIsIn (fun vs H Q E h => ?_) (fun _ _ _ _ _ _ us hl => match us, hl with | [_, _, _], _ => rfl) (fun f cdv A outer s H vs Q E hr h => ?_)
  · obtain ⟨i, lo, hi, rfl, _⟩ := h
    rfl
  · obtain ⟨i, lo, hi, rfl, h1, h2, k⟩ := h
    refine ⟨_, pss_one (ps_ret (pe_and (pe_fn g1 hr (pa_cons (pv 0) pa_nil)) (pe_one (pe_chain op_le op_le (pv 1) (pv 0) (pv 2))))), ?_⟩
    refine ⟨_, rfl, i, rfl, _, rfl, iteT ?_⟩
    refine ⟨_, rfl, _, rfl, _, _, rfl, rfl, _, rfl, ?_⟩
    rw [decide_eq_true h1]
    refine iteT ⟨_, rfl, _, _, rfl, rfl, ?_⟩
    show Q (.bl (decide (i ≤ hi))) H
    rw [decide_eq_true h2]
    exact k
def spIsList : Sp := fun vs H Q _ => ∃ a xs lo hi, vs = [.ref a, .int lo, .int hi] ∧ H a = some (.tup xs) ∧ lo ≤ (xs.length : Int) ∧ (xs.length : Int) ≤ hi ∧ Q (.bl true) H
theorem scIsList : FnScope ["value", "least", "most"] ["value", "least", "most"] (defScope sIsList) := ⟨rfl, rfl, rfl, by decide +kernel, rfl, by decide +kernel, by decide +kernel⟩
theorem ok_is_list (F : FnD K mg "is_list" sIsList) (B : Bt mg) : Fnc P w K mg base CX0 "is_list" 1 ["value", "least", "most"] spIsList := by
  refine fnc0 F scIsList (fun vs H Q E h => ?_) (fun _ _ _ _ _ _ us hl => match us, hl with | [_, _, _], _ => rfl) (fun f cdv A outer s H vs Q E hr h => ?_)
  · obtain ⟨a, xs, lo, hi, rfl, _⟩ := h
    rfl
  · obtain ⟨a, xs, lo, hi, rfl, ha, h1, h2, k⟩ := h
    refine ⟨_, pss_one (ps_ret (pe_and (pe_callB call_isi (by rfl) B.isinst boot_isinstance (pa_cons (pv 0) (pa_cons (pe_bltn (v := .ty "tuple") (by rfl) B.tuple boot_tuple rfl) pa_nil)))
      (pe_one (pe_chain op_le op_le (pv 1) (pe_callB call_len_seq (by rfl) B.len boot_len (pa_cons (pv 0) pa_nil)) (pv 2))))), ?_⟩
    refine ⟨_, rfl, _, _, .type "tuple", .type "tuple", true, rfl, .ty "tuple", .base (.tup ha), kit_ty (by decide +kernel), _, rfl, iteT ?_⟩
    refine ⟨_, rfl, _, rfl, _, _, rfl, .inr (SqT.of ha), _, _, rfl, rfl, _, rfl, ?_⟩
    rw [decide_eq_true h1]
    refine iteT ⟨_, rfl, _, _, rfl, rfl, ?_⟩
    show Q (.bl (decide ((xs.length : Int) ≤ hi))) H
    rw [decide_eq_true h2]
    exact k
end
end Ts


set_option Elab.async false
set_option linter.all false
set_option maxRecDepth 100000
set_option maxHeartbeats 4000000
/-! Rules that the layer lacks: enumerate(tuple). -/
namespace Ts
open PySem PySem.Spec PyProof.Rows L2
theorem meets_enumerate_newT (l : Addr) (items : Array Value) (n : Nat) (dct : Option Addr) (sl : Array (Option Value)) :
    Meets (Builtin.«enumerate.__new__» ⟨[.type "enumerate", .ref l], []⟩) (fun _ R s => s.heap.get? l = some { cls := .type "tuple", dict := dct, data := .seq items n, slots := sl } ∧
      R (.ok (.ret (.ref (s.heap.push { cls := .type "tuple_iterator", data := .fields #[.ref l, .int 0 0] }).objs.size)))
        { s with heap := (s.heap.push { cls := .type "tuple_iterator", data := .fields #[.ref l, .int 0 0] }).push { cls := .type "enumerate", data := .fields #[.none, .bool false, .ref s.heap.objs.size, rawInt 0, .none, .none] } }) :=
  .of_wp fun prog w A R s h => by
    obtain ⟨hp, g, d, tk, os⟩ := s; obtain ⟨hl, h⟩ := h
    have hsub := sub_enumerate
    have hL : Heap.IsTuple (Shared.heap ⟨hp, g, d, tk, os⟩) l items := ⟨_, hl, rfl, n, rfl⟩
    wp_walk using AutoSeq1.wpAny_loadPart' hl
    refine wpAny_stack_any fun st => wpAny_pure ?_
    split
    · rename_i c _ _ _ _ _
      cases (c == Value.type "enumerate")
      · wp_walk using AutoSeq1.wpAny_loadPart' hl, wpAny_pyIter_tuple hL
        exact ⟨_, rfl, h⟩
      · wp_walk using AutoSeq1.wpAny_loadPart' hl, wpAny_pyIter_tuple hL
        exact ⟨_, rfl, h⟩
    · wp_walk using AutoSeq1.wpAny_loadPart' hl, wpAny_pyIter_tuple hL
      exact ⟨_, rfl, h⟩
section
variable {prog : Program} {w : World} {A : Around} {E : Value → Shared → Prop} {s : Shared}
theorem call_enumerate_tuple {l : Addr} {items : Array Value} {Q : Value → Shared → Prop} (hL : s.heap.IsTuple l items)
    (h : ∀ h', IsEnum h' (s.heap.objs.size + 1) s.heap.objs.size 0 .none → h'.IsTupleIter s.heap.objs.size l 0 → h'.objs.size = s.heap.objs.size + 2 →
      (∀ b o, s.heap.get? b = some o → h'.get? b = some o) → Q (.ref (s.heap.objs.size + 1)) { s with heap := h' }) :
    wpAny (model prog w) A (call (.type "enumerate") [.ref l]) Q E s := by
  obtain ⟨⟨c, dct, dt, sl⟩, hl, hc, n, hd⟩ := hL
  replace hc : c = .type "tuple" := hc
  replace hd : dt = .seq items n := hd
  subst hc hd
  refine callType_new F.called_enumerate (by decide) (F.typeCall_enumerate_1 _) (F.newCall_enumerate_1 _) (fun obj => F.args_object_init_2 obj _) F.entry_enumerate_new
    (meets_enumerate_newT l items n dct sl) ⟨hl, ?_⟩
  have hz : (s.heap.push { cls := .type "tuple_iterator", data := .fields #[.ref l, .int 0 0] }).objs.size = s.heap.objs.size + 1 := Heap.size_push ..
  show _ ∧ _
  rw [hz]
  have he : IsEnum ((s.heap.push { cls := .type "tuple_iterator", data := .fields #[.ref l, .int 0 0] }).push
      { cls := .type "enumerate", data := .fields #[.none, .bool false, .ref s.heap.objs.size, rawInt 0, .none, .none] }) (s.heap.objs.size + 1) s.heap.objs.size 0 .none := by
    have := Heap.get?_push_size (s.heap.push { cls := .type "tuple_iterator", data := .fields #[.ref l, .int 0 0] })
      (o := { cls := .type "enumerate", data := .fields #[.none, .bool false, .ref s.heap.objs.size, rawInt 0, .none, .none] }) rfl
    rw [hz] at this; exact this
  refine ⟨⟨_, he, rfl⟩, h _ he ⟨_, Heap.get?_push_of_some _ (Heap.get?_push_size _ rfl), rfl, rfl⟩ (by rw [Heap.size_push, hz]) fun b o x => Heap.get?_push_of_some _ (Heap.get?_push_of_some _ x)⟩
end
/-- the tuple at a, each item in a new pair -/
def ItET (K : PySem.W.Frag) (a : Addr) : It :=
  ⟨fun i H => ∃ (xs : List V) (x : V), SqT K H a xs ∧ xs[i]? = some x, fun i H v H' => ∃ T x, v = .ref T ∧ H T = none ∧ H' = upd H T (.tup [.int (i : Nat), x]) ∧ ∀ xs, SqT K H a xs → xs[i]? = some x, fun i H => ∃ xs : List V, SqT K H a xs ∧ xs.length = i⟩
theorem turn_enumT {P : Program} {w : World} {K : PySem.W.Frag} {elts : List Expr} {kk : Nat} {tpos : Pos} (a e it : Addr) :
    Turn P w K (.Tuple elts kk tpos) (ItET K a) [e, it] e (fun i h => (∃ old, IsEnum h e it ((i : Nat) : Int) old) ∧ h.IsTupleIter it a i ∧ e ≠ it) where
  mem := by simp
  obj := fun i h st b hb => by
    obtain ⟨⟨old, he⟩, ⟨o, ho, hc, hd⟩, _⟩ := st
    have e' : b = e ∨ b = it := by simpa using hb
    rcases e' with z | z
    · rw [z]; exact ⟨_, he, fun v q => nomatch q⟩
    · rw [z]; exact ⟨o, ho, fun v q => by rw [hd] at q; cases q⟩
  keep := fun i h h' st k => let ⟨⟨old, he⟩, hi, hne⟩ := st; ⟨⟨old, k e (by simp) _ he⟩, hi.at fun o q => k it (by simp) o q, hne⟩
  item := by
    intro X hP hw hK hc i pins s σ H E I hf st hg
    subst hP hw hK
    obtain ⟨⟨old, he⟩, hit, hne⟩ := st
    obtain ⟨xs, x, hq, hx⟩ := hg
    obtain ⟨its, rv, p, hz⟩ := I.tuple hq
    have p' : s.heap.IsTuple a its.toArray := p
    obtain ⟨u, hu, ru⟩ := rv.get hx
    have hel : e < s.heap.objs.size := Heap.lt_size he
    have hil : it < s.heap.objs.size := by obtain ⟨_, q, _⟩ := hit; exact Heap.lt_size q
    have nea : e ≠ a := fun z => by
      obtain ⟨o, q, c, _⟩ := p'
      rw [← z, he] at q
      have ec := congrArg Obj.cls (Option.some.inj q)
      rw [c] at ec
      exact absurd (Value.type.inj ec) (by decide)
    have nia : a ≠ it := fun z => by
      obtain ⟨o, q, c, _⟩ := p'
      obtain ⟨o2, q2, c2, _⟩ := hit
      rw [z, q2] at q
      have ec := congrArg Obj.cls (Option.some.inj q)
      rw [c, c2] at ec
      exact absurd (Value.type.inj ec) (by decide)
    have D := Draws.tuple (prog := X.prog) (w := X.w) (A := X.A.in1) (by exact I.ok.hd hc) it a nia its.toArray
    have hlt : i < its.toArray.size := by
      have q := (List.getElem?_eq_some_iff.mp hu).1
      simpa using q
    refine wpAny_pyNext_enum_itemD D he ⟨hit, p'⟩ hlt hne (by simp [hne, nea]) fun y h' tk hy ho hit' hT hsz hk => ?_
    have ey : y = u := by
      have h1 : its[i]? = some y := by simpa using hy
      rw [hu] at h1
      exact (Option.some.inj h1).symm
    subst ey
    refine ⟨_, rfl, wpAny_letOwnedTupleGo_enum (s := { s with heap := h', toks := tk + 1 }) ho fun h'' he' sb => ?_⟩
    have hT2 : h''.get? s.heap.objs.size = some { cls := .type "tuple", data := .seq #[.int i tk, y] } := (sb.2 _ (Nat.ne_of_gt hel)).trans hT
    have new : ObjOk X.prog X.w (upd H s.heap.objs.size (.tup [.int (i : Nat), x])) h'' s.heap.objs.size (.tup [.int (i : Nat), x]) :=
      ⟨by show 2 ≤ sizeLine; decide, [.int i tk, y], .cons ⟨_, rfl⟩ (.cons ru .nil), ⟨_, hT2, rfl, _, rfl⟩⟩
    have I1 : Inv X pins σ (upd H s.heap.objs.size (.tup [.int (i : Nat), x])) { s with heap := h'', toks := tk + 1 } :=
      I.turnedNew (ch := [e, it]) (fun b ob hb q => (sb.2 b (fun z => hb (by simp [z]))).trans (hk b ob (fun z => hb (by simp [z])) (fun z => hb (by simp [z])) q)) hf (Nat.le_refl _) new
    refine ⟨.ref s.heap.objs.size, _, I1, rfl, ⟨_, x, rfl, I.hok.fresh (Nat.le_refl _), rfl, fun ys hy => by rw [I.tuple_inj hy hq]; exact hx⟩, ⟨⟨y, ?_⟩, hit'.1.at fun o q => (sb.2 it (Ne.symm hne)).trans q, hne⟩, fun b hb => ?_⟩
    · have e1 : ((i + 1 : Nat) : Int) = (i : Int) + 1 := by omega
      rw [e1]; exact he'
    · have hb' : b < s.heap.objs.size := by
        have e' : b = e ∨ b = it := by simpa using hb
        rcases e' with z | z
        · rw [z]; exact hel
        · rw [z]; exact hil
      rw [upd_ne (Nat.ne_of_lt hb')]
      exact (hf b hb).1
  done := by
    intro X hP hw hK hc i pins s σ H E I hf st hg
    subst hP hw hK
    obtain ⟨⟨old, he⟩, hit, hne⟩ := st
    obtain ⟨xs, hq, hx⟩ := hg
    obtain ⟨its, rv, p, hz⟩ := I.tuple hq
    have p' : s.heap.IsTuple a its.toArray := p
    obtain ⟨f0, f1, f2, f3, f4, f5⟩ := hf it (by simp)
    have hl := rv.length
    have nia : a ≠ it := fun z => by
      obtain ⟨o, q, c, _⟩ := p'
      obtain ⟨o2, q2, c2, _⟩ := hit
      rw [z, q2] at q
      have ec := congrArg Obj.cls (Option.some.inj q)
      rw [c, c2] at ec
      exact absurd (Value.type.inj ec) (by decide)
    have D := Draws.tuple (prog := X.prog) (w := X.w) (A := X.A.in1) (by exact I.ok.hd hc) it a nia its.toArray
    have en : its.toArray.size = i := by simp; omega
    rw [en] at D
    exact wpAny_pyNext_enum_endD D he ⟨hit, p'⟩ fun h' eb => ⟨rfl, I.turned (t' := s.toks) (fun b o hb q => eb b o hb q) f0 f1 f3 f4 f5⟩
  self := fun A i s Q E st h => let ⟨⟨_, he⟩, _⟩ := st; wpAny_pyIter_enum he h
def iEnumT (K : PySem.W.Frag) (ta : TA) : TI := fun σ H R => ta σ H fun vs H1 => ∃ a xs, vs = [.ref a] ∧ SqT K H1 a xs ∧ R (ItET K a) H1
theorem pi_enumT {X : Cx} {e : Expr} {ta : TA} {p pos tpos : Pos} {elts : List Expr} {kk : Nat} (hg : Gl X "enumerate") (hm : X.mg "enumerate" = none) (ha : PA X [e] ta) (hs : starEach [e] X.env = [(false, eval e X.env)] := by rfl) :
    PI X (.Tuple elts kk tpos) (.Call (.Name "enumerate" p) [e] [] pos) (iEnumT X.K ta) := by
  refine ⟨fun pins s σ H R I h => ?_⟩
  refine Call_ (ld_blt I hg hm boot_enumerate (PyProof.Rows.callWith_type1 (thn (ha.run pos pins s σ H _ I h) fun us s1 ⟨vs, H1, I1, r1, q1⟩ => ?_) hs rfl))
  obtain ⟨a, xs, ex, hq, q⟩ := q1
  subst ex
  cases r1 with
  | cons r rr =>
    cases rr
    cases r
    obtain ⟨its, rv, p', hz⟩ := I1.tuple hq
    refine call_enumerate_tuple (show s1.heap.IsTuple a its.toArray from p') fun h' he hit hsz hk => wpAny_pyIter_enum he ?_
    have I2 : Inv X pins σ H1 { s1 with heap := h' } := I1.kept (t' := s1.toks) hk
    refine ⟨s1.heap.objs.size + 1, [s1.heap.objs.size + 1, s1.heap.objs.size], _, _, H1, rfl, I2, turn_enumT a (s1.heap.objs.size + 1) s1.heap.objs.size, ⟨⟨.none, he⟩, hit, Nat.succ_ne_self _⟩, fun b hb => ?_, q⟩
    have e' : b = s1.heap.objs.size + 1 ∨ b = s1.heap.objs.size := by simpa using hb
    have hle : s1.heap.objs.size ≤ b := by
      rcases e' with z | z
      · rw [z]; exact Nat.le_add_right _ _
      · rw [z]; exact Nat.le_refl _
    exact I1.fpOk hle (I1.hok.fresh hle)
/-- over the pairs of a tuple -/
theorem for_enumT {K : PySem.W.Frag} {a : Addr} {xs : List V} {g : TG} {tb : TS} {D : Ends} {σ : L2.St} {H : Hp} (Pv : Nat → L2.St → Hp → Prop) (h0 : Pv 0 σ H) (hl : ∀ i σ H, i ≤ xs.length → Pv i σ H → SqT K H a xs)
    (hs : ∀ i x σ H T, xs[i]? = some x → Pv i σ H → H T = none → g (.ref T) σ (upd H T (.tup [.int (i : Nat), x])) fun σ2 H2 => tb { D with nx := Pv (i + 1), ct := Pv (i + 1), bk := D.nx } σ2 H2) (hd : ∀ σ H, Pv xs.length σ H → D.nx σ H) :
    ∃ W : Nat → Nat → L2.St → Hp → Prop, (∃ m, W 0 m σ H) ∧ ∀ i m σ H, W i m σ H →
      ((ItET K a).stop i H ∧ D.nx σ H) ∨ ((ItET K a).go i H ∧ ∃ N : L2.St → Hp → Prop, (∀ σ' H', N σ' H' → ∃ m', m' < m ∧ W (i + 1) m' σ' H') ∧ ∀ x H', (ItET K a).yld i H x H' → g x σ H' fun σ2 H2 => tb { D with nx := N, ct := N, bk := D.nx } σ2 H2) := by
  refine ⟨fun i m σ H => m = xs.length - i ∧ i ≤ xs.length ∧ Pv i σ H, ⟨xs.length, by simp, Nat.zero_le _, h0⟩, ?_⟩
  rintro i m σ H ⟨rfl, hi, p⟩
  have q := hl i σ H hi p
  by_cases hlt : i < xs.length
  · refine .inr ⟨⟨xs, xs[i], q, by simp [hlt]⟩, Pv (i + 1), fun σ' H' p' => ⟨xs.length - (i + 1), by omega, rfl, hlt, p'⟩, fun x H' y => ?_⟩
    obtain ⟨T, x, rfl, hT, rfl, hx⟩ := y
    exact hs i x σ H T (hx xs q) p hT
  · have e : i = xs.length := by omega
    subst e
    exact .inl ⟨⟨xs, q, rfl⟩, hd σ H p⟩
end Ts


set_option Elab.async false
set_option linter.all false
set_option maxRecDepth 100000
set_option maxHeartbeats 4000000
/-! Rules that the layer lacks: sorted of tuples of numbers of any lengths, sorted(set(tuple)), min of pairs. -/
namespace Ts
open PySem PySem.Spec PyProof.Rows L2
open HT (lexLt lexLt_cons lexLt_nil_nil lexLt_nil_cons lexLt_cons_nil)
theorem lexLt_asym : ∀ a b : List Int, lexLt a b = true → lexLt b a = false
  | [], [], h => by rw [lexLt_nil_nil] at h; cases h
  | [], _ :: _, _ => rfl
  | _ :: _, [], h => by rw [lexLt_cons_nil] at h; cases h
  | x :: xs, y :: ys, h => by
    rw [lexLt_cons] at h ⊢
    by_cases e : x = y
    · rw [if_pos e] at h
      rw [if_pos e.symm]
      exact lexLt_asym xs ys h
    · rw [if_neg e] at h
      rw [if_neg (Ne.symm e)]
      have := of_decide_eq_true h
      exact decide_eq_false (by omega)
theorem lexLt_tr : ∀ a b c : List Int, lexLt b a = false → lexLt c b = false → lexLt c a = false
  | a, b, [], h1, h2 => by
    cases b with
    | cons y ys => rw [lexLt_nil_cons] at h2; cases h2
    | nil => exact h1
  | a, [], z :: zs, h1, h2 => by
    cases a with
    | nil => exact lexLt_cons_nil _ _
    | cons x xs => rw [lexLt_nil_cons] at h1; cases h1
  | [], y :: ys, z :: zs, h1, h2 => lexLt_cons_nil _ _
  | x :: xs, y :: ys, z :: zs, h1, h2 => by
    rw [lexLt_cons] at h1 h2 ⊢
    by_cases e1 : y = x
    · rw [if_pos e1] at h1
      by_cases e2 : z = y
      · rw [if_pos e2] at h2
        rw [if_pos (e2.trans e1)]
        exact lexLt_tr xs ys zs h1 h2
      · rw [if_neg e2] at h2
        have := of_decide_eq_false h2
        rw [if_neg (fun e => e2 (e.trans e1.symm))]
        exact decide_eq_false (by omega)
    · rw [if_neg e1] at h1
      have := of_decide_eq_false h1
      by_cases e2 : z = y
      · rw [if_neg (fun e => e1 (e2.symm.trans e))]
        exact decide_eq_false (by omega)
      · rw [if_neg e2] at h2
        have := of_decide_eq_false h2
        rw [if_neg (by omega)]
        exact decide_eq_false (by omega)
/-- the numbers of the tuple at v -/
def kTup (h : Heap) (v : Value) : List Int := match v with
  | .ref a => (match h.get? a with
    | some o => (match o.data with
      | .seq its _ => its.toList.map SrtO.iv
      | _ => [])
    | none => [])
  | _ => []
def IsTupI (h : Heap) (v : Value) (ns : List Int) : Prop := ∃ a o its n, v = .ref a ∧ h.get? a = some o ∧ o.cls = .type "tuple" ∧ o.data = .seq its n ∧ IntsAre its.toList ns
theorem IsTupI.key {h : Heap} {v : Value} {ns : List Int} (t : IsTupI h v ns) : kTup h v = ns := by
  obtain ⟨a, o, its, n, rfl, ho, _, hd, hi⟩ := t
  unfold kTup
  simp only [ho, hd]
  exact SrtO.iv_ints hi
theorem IsTupI.keeps {h h' : Heap} {v : Value} {ns : List Int} (t : IsTupI h v ns) (k : ∀ b o, h.get? b = some o → o.cls = .type "tuple" → h'.get? b = some o) : IsTupI h' v ns := by
  obtain ⟨a, o, its, n, e, ho, hc, hd, hi⟩ := t
  exact ⟨a, o, its, n, e, k _ _ ho hc, hc, hd, hi⟩
section
variable {prog : Program} {w : World} {A : Around} {E : Value → Shared → Prop} {s : Shared}
theorem katLex_tup {b : Bool} {Q : Bool → Shared → Prop} : ∀ (ns ms : List Int) (fin : Bool) (xs ys : List Value) (i : Nat), IntsAre xs ns → IntsAre ys ms → fin = decide (ns.length < ms.length) → Q (lexLt ns ms) s → PySem.W.KatLex prog w A b fin Q (xs.zip ys) i s
  | [], [], fin, _, _, i, hx, hy, hf, hq => by
    cases hx
    cases hy
    subst hf
    exact PySem.W.kat_nil hq
  | [], y :: ms, fin, _, ys, i, hx, hy, hf, hq => by
    cases hx
    rw [List.zip_nil_left]
    have e : fin = true := by rw [hf]; exact decide_eq_true (Nat.succ_pos _)
    subst e
    exact PySem.W.kat_nil hq
  | x :: ns, [], fin, xs, _, i, hx, hy, hf, hq => by
    cases hy
    rw [List.zip_nil_right]
    have e : fin = false := by rw [hf]; exact decide_eq_false (Nat.not_lt_zero _)
    subst e
    exact PySem.W.kat_nil hq
  | x :: ns, y :: ms, fin, _, _, i, hx, hy, hf, hq => by
    cases hx with
    | cons _ t hx =>
      cases hy with
      | cons _ u hy =>
        rw [List.zip_cons_cons]
        rw [lexLt_cons] at hq
        refine PySem.W.kat_cons (SeqAt.EqAt.int_int x t y u prog w _ _ ?_)
        refine PySem.W.kat_go (fun e1 => ?_) (fun e1 => ?_)
        · have ex : x = y := by simpa using e1
          rw [if_pos ex] at hq
          refine PySem.W.kat_yes (katLex_tup ns ms fin _ _ (i + 1) hx hy ?_ hq)
          rw [hf]
          simp only [List.length_cons, Nat.add_lt_add_iff_right]
        · have ex : ¬ x = y := by simpa using e1
          rw [if_neg ex] at hq
          exact PySem.W.kat_no (TS.oneLt_ints _ hq)
theorem oneLt_tup {f : Bool} {v u : Value} {ns ms : List Int} {Q : Bool → Shared → Prop} (h1 : IsTupI s.heap v ns) (h2 : IsTupI s.heap u ms) (hu : A.units < cLine) (hq : Q (lexLt ns ms) s) : wpAny (model prog w) A (oneLt' f v u) Q E s := by
  obtain ⟨a, o, its, n, rfl, ho, hc, hd, hi⟩ := h1
  obtain ⟨b, o2, its2, n2, rfl, ho2, hc2, hd2, hj⟩ := h2
  cases f with
  | false => exact PySem.W.kat_one _ _ (HT.lt_tupInts (Q := PySem.W.BoolBack Q) ⟨o, ho, hc, n, hd⟩ ⟨o2, ho2, hc2, n2, hd2⟩ hi hj hu hq)
  | true =>
    rw [oneLt'_eq]
    simp only [if_true]
    refine wpAny_bind (wpAny_cRoomFor hu ?_)
    obtain ⟨cls, dd, data, sl⟩ := o
    obtain ⟨cls2, dd2, data2, sl2⟩ := o2
    simp only at hc hd hc2 hd2
    subst hc hd hc2 hd2
    refine wpAny_bind (wpAny_callSpecialIfBound?_slot (T := "tuple") ⟨_, ho, rfl⟩ PySem.F.slot_tuple_lt (call_meets PySem.F.slot_tuple_lt ⟨_, ho, rfl⟩ PySem.F.entry_tuple_lt (PySem.F.args_tuple_lt_2 _ _) (HT.tuple_lt_ints a b its its2 n n2 dd dd2 sl sl2 ns ms hi hj) ⟨ho, ho2, ?_⟩))
    exact wpAny_truthy_bool hq
/-- the key kind of tuples, one of them empty -/
def firstsOf (h : Heap) (v : Value) : Option Value := match v with
  | .ref a => (match h.get? a with
    | some o => (match o.data with
      | .seq its _ => its[0]?
      | _ => none)
    | none => none)
  | _ => none
theorem firsts_map {M : Model} : ∀ (vs : List Value) {Q : List (Option Value) → Shared → Prop}, (∀ v ∈ vs, ∃ ns, IsTupI s.heap v ns) → Q (vs.map (firstsOf s.heap)) s → wpAny M A (vs.mapM firstOfTuple') Q E s
  | [], _, _, h => by rw [List.mapM_nil]; exact wpAny_pure h
  | v :: vs, Q, t, h => by
    obtain ⟨ns, a, o, its, n, rfl, ho, hc, hd, hi⟩ := t v List.mem_cons_self
    rw [List.mapM_cons]
    refine wpAny_bind ?_
    rw [PySem.W.kas_first_eq]
    refine wpAny_bind (PySem.W.Looks.here (show PySem.W.Looks M s.heap (typeOf (.ref a)) o.cls from (PySem.W.Looks.ld ho).andThen .now) ?_)
    rw [hc, if_neg (by first | decide | simp)]
    refine wpAny_bind (listItems_at ho hd (wpAny_pure ?_))
    refine wpAny_bind (firsts_map vs (Q := fun bs s' => wpAny M A (pure (its[0]? :: bs)) Q E s') (fun v hv => t v (List.mem_cons_of_mem _ hv)) (wpAny_pure ?_))
    have e : firstsOf s.heap (.ref a) = its[0]? := by
      unfold firstsOf
      simp only [ho, hd]
    rw [List.map_cons, e] at h
    exact h
theorem types_map {M : Model} : ∀ (vs : List Value) {Q : List Value → Shared → Prop}, (∀ v ∈ vs, ∃ ns, IsTupI s.heap v ns) → Q (vs.map fun _ => Value.type "tuple") s → wpAny M A (vs.mapM typeOf) Q E s := fun vs Q t h =>
  PySem.W.kas_mapM (r := Value.type "tuple") vs (fun v hv Q' hq => by
    obtain ⟨ns, a, o, its, n, rfl, ho, hc, hd, hi⟩ := t v hv
    exact PySem.W.Looks.here (show PySem.W.Looks M s.heap (typeOf (.ref a)) o.cls from (PySem.W.Looks.ld ho).andThen .now) (by rw [hc]; exact hq)) h
theorem firstsOf_int {h : Heap} {v : Value} {ns : List Int} (t : IsTupI h v ns) : firstsOf h v = none ∨ ∃ i t, firstsOf h v = some (.int i t) := by
  obtain ⟨a, o, its, n, rfl, ho, hc, hd, hi⟩ := t
  unfold firstsOf
  simp only [ho, hd]
  cases e : its[0]? with
  | none => exact .inl rfl
  | some x =>
    have hx : x ∈ its.toList := by
      have := Array.mem_of_getElem? e
      simpa using this
    obtain ⟨i, t, rfl⟩ := SrtO.ints_mem hi x hx
    exact .inr ⟨i, t, rfl⟩
theorem kind_tups {vs : List Value} (hne : vs ≠ []) (t : ∀ v ∈ vs, ∃ ns, IsTupI s.heap v ns) : ∃ κ : SortKind, (κ = tuples' true ∨ κ = general' ∨ κ = oneType') ∧
    ∀ (Q : SortKind → Shared → Prop) (E : Value → Shared → Prop), Q κ s → wpAny (model prog w) A (keyKind' vs.toArray) Q E s := by
  by_cases hall : ((vs.map (firstsOf s.heap)).toArray.all fun x => x.isSome) = true
  · refine ⟨tuples' true, .inl rfl, fun Q E h1 => ?_⟩
    rw [kat_kind_eq, List.mapM_toArray, map_eq_pure_bind]
    refine wpAny_bind (wpAny_bind (firsts_map vs t (wpAny_pure ?_)))
    rw [if_pos hall]
    refine wpAny_bind (wpAny_rule ?_)
    obtain ⟨fs, hfs, hint⟩ : ∃ fs : List Value, vs.map (firstsOf s.heap) = fs.map some ∧ ∀ f ∈ fs, ∃ i t, f = Value.int i t := by
      clear h1 hne
      induction vs with
      | nil => exact ⟨[], rfl, fun f hf => by cases hf⟩
      | cons v vs ih =>
        have hall' : (firstsOf s.heap v).isSome = true ∧ ((vs.map (firstsOf s.heap)).toArray.all fun x => x.isSome) = true := by
          simpa using hall
        obtain ⟨fs, e, hf⟩ := ih (fun v hv => t v (List.mem_cons_of_mem _ hv)) hall'.2
        obtain ⟨ns, tv⟩ := t v List.mem_cons_self
        rcases firstsOf_int tv with z | ⟨i, u, z⟩
        · rw [z] at hall'
          exact absurd hall'.1 (by simp)
        · refine ⟨.int i u :: fs, by rw [List.map_cons, List.map_cons, e, z], fun f hm => ?_⟩
          rcases List.mem_cons.mp hm with e' | hm
          · exact ⟨i, u, e'⟩
          · exact hf f hm
    rw [hfs]
    have hfm : ((fs.map some).toArray.filterMap id) = fs.toArray := by simp
    rw [hfm, oneTypeOnly'_eq, List.mapM_toArray, map_eq_pure_bind]
    refine wpAny_bind (wpAny_bind (wpAny_bind (PySem.W.kas_mapM (r := Value.type "int") _ (fun v hv Q' hq => ?_) (wpAny_pure ?_))))
    · obtain ⟨i, u, rfl⟩ := hint v hv
      exact PySem.W.Looks.now.here hq
    · have hl : fs ≠ [] := fun z => by
        rw [z] at hfs
        exact hne (by simpa using hfs)
      obtain ⟨f, fr, rfl⟩ := List.exists_cons_of_ne_nil hl
      have hall2 : ((List.map (fun _ => Value.type "int") (f :: fr)).toArray.all fun x => x == Value.type "int") = true := by
        simp only [List.all_toArray, List.all_map, List.all_eq_true]
        intro _ _
        rfl
      have h0 : (List.map (fun _ => Value.type "int") (f :: fr)).toArray[0]? = some (Value.type "int") := by simp
      rw [h0]
      simp only [hall2, if_true]
      exact wpAny_pure (wpAny_pure h1)
  · by_cases h0 : ((vs.map (firstsOf s.heap)).toArray[0]?.bind id).isSome = true
    · refine ⟨general', .inr (.inl rfl), fun Q E h1 => ?_⟩
      rw [kat_kind_eq, List.mapM_toArray, map_eq_pure_bind]
      refine wpAny_bind (wpAny_bind (firsts_map vs t (wpAny_pure ?_)))
      rw [if_neg hall, if_pos h0]
      exact wpAny_pure h1
    · refine ⟨oneType', .inr (.inr rfl), fun Q E h3 => ?_⟩
      rw [kat_kind_eq, List.mapM_toArray, map_eq_pure_bind]
      refine wpAny_bind (wpAny_bind (firsts_map vs t (wpAny_pure ?_)))
      rw [if_neg hall, if_neg h0]
      rw [oneTypeOnly'_eq, List.mapM_toArray, map_eq_pure_bind]
      refine wpAny_bind (wpAny_bind (wpAny_bind (types_map vs t (wpAny_pure ?_))))
      obtain ⟨v, vr, rfl⟩ := List.exists_cons_of_ne_nil hne
      have hall2 : ((List.map (fun _ => Value.type "tuple") (v :: vr)).toArray.all fun x => x == Value.type "tuple") = true := by
        simp only [List.all_toArray, List.all_map, List.all_eq_true]
        intro _ _
        rfl
      have h0 : (List.map (fun _ => Value.type "tuple") (v :: vr)).toArray[0]? = some (Value.type "tuple") := by simp
      rw [h0]
      simp only [hall2, if_true]
      exact wpAny_pure (wpAny_pure h3)
theorem tups_sortable {a : Addr} {vs : List Value} (hu : A.units < cLine) (hne : vs ≠ []) (t : ∀ v ∈ vs, ∃ ns, IsTupI s.heap v ns) (ha : ∀ o, s.heap.get? a = some o → o.cls ≠ .type "tuple") : Srt.Sortable prog w A s a vs := by
  intro h' keep
  have t' : ∀ v ∈ vs, ∃ ns, IsTupI h' v ns := fun v hm => by
    obtain ⟨ns, q⟩ := t v hm
    exact ⟨ns, q.keeps fun b o e c => keep b o (fun z => by subst z; exact ha o e c) e⟩
  obtain ⟨κ, hk, hQ⟩ := kind_tups (prog := prog) (w := w) (A := A) (s := { s with heap := h' }) hne t'
  refine ⟨κ, hQ, fun p q hm hm' => ?_⟩
  obtain ⟨ns, h1⟩ := t' _ hm
  obtain ⟨ms, h2⟩ := t' _ hm'
  refine ⟨lexLt ns ms, ?_⟩
  rcases hk with e | e | e
  · subst e
    obtain ⟨a, o, its, n, e1, ho, hc, hd, hi⟩ := h1
    obtain ⟨b, o2, its2, n2, e2, ho2, hc2, hd2, hj⟩ := h2
    rw [e1, e2]
    refine PySem.W.kat_lt ho hd ho2 hd2 (katLex_tup ns ms _ _ _ 0 hi hj ?_ ⟨rfl, rfl⟩)
    rw [← hi.length, ← hj.length]
    simp
  · subst e
    exact oneLt_tup (f := false) h1 h2 hu ⟨rfl, rfl⟩
  · subst e
    exact oneLt_tup (f := true) h1 h2 hu ⟨rfl, rfl⟩
theorem sorted_tupI {l : Addr} {vs : List Value} {Q : Value → Shared → Prop} (hu : A.units + 2 < cLine) (hl : s.heap.IsList l vs.toArray) (hz : vs.length ≤ sizeLine) (t : ∀ v ∈ vs, ∃ ns, IsTupI s.heap v ns)
    (h : ∀ (h' : Heap) (d : Addr) (out : List Value), out.Perm vs → (∀ b o, s.heap.get? b = some o → h'.get? b = some o) → s.heap.objs.size ≤ d → (∃ n, h'.get? d = some (seqObj "list" out.toArray n)) → Q (.ref d) { s with heap := h' }) :
    wpAny (model prog w) A (call (.builtin "sorted") [.ref l]) Q E s := by
  refine Srt.sorted_any hl hz (fun h2 h₁ a ha k => ?_) fun out ho => ?_
  · refine tups_sortable (s := { s with heap := h₁ }) hu (fun z => by rw [z] at h2; simp at h2) (fun v hm => ?_) fun o e => ?_
    · obtain ⟨ns, p⟩ := t v hm
      exact ⟨ns, p.keeps fun b o e _ => (k b o e).2⟩
    · have e' : some o = some (seqObj "list" vs.toArray 0) := e.symm.trans ha
      cases e'
      intro c
      exact absurd (Value.type.inj c) (by decide)
  · exact h _ _ out ho (fun b o e => sortedAll_old e) (Nat.le_succ _) (sortedAll_at s.heap vs out.toArray)
end
/-- sorted(xs), xs a list of tuples of numbers: a new list of the same, in some order -/
def rSortedT (K : PySem.W.Frag) : List V → Hp → VK → Prop := fun vs H Q => ∃ a xs, vs = [V.ref a] ∧ SqL K H a xs ∧ (∀ x ∈ xs, ∃ t ns, x = V.ref t ∧ H t = some (.tup (List.map V.int ns))) ∧
  ∀ ys p, ys.Perm xs → H p = none → Q (.ref p) (upd H p (.lst ys))
section
variable {X : Cx}
theorem cr_sortedT (hu : X.A.units + 2 < cLine) : CallR X (.builtin "sorted") (rSortedT X.K) := by
  intro pins s σ H vs us Q I r h
  obtain ⟨a, xs, rfl, hs, hx, q⟩ := h
  obtain ⟨its, rv, hl, hz⟩ := I.list hs
  obtain ⟨u, rfl, ru⟩ := vals1 r
  obtain rfl : u = Value.ref a := ru
  obtain ⟨e1, e2⟩ := refs_back rv fun x m => by
    obtain ⟨t, _, e, _⟩ := hx x m
    exact ⟨t, e⟩
  refine sorted_tupI hu hl.isList (by rw [← rv.length]; exact hz) (fun v hv => ?_) fun h' d out hp k hd hn => ?_
  · obtain ⟨t, rfl⟩ := e2 v hv
    have hm : V.ref t ∈ xs := by rw [e1]; exact List.mem_map.mpr ⟨_, hv, rfl⟩
    obtain ⟨t', ns, e, ht⟩ := hx _ hm
    cases e
    obtain ⟨_, its2, r2, o, ho, hc, n, hd⟩ := I.hok _ _ ht
    exact ⟨ns, t, o, its2.toArray, n, rfl, ho, hc, hd, by simpa using r2.ints⟩
  · have h3 : ∀ u ∈ out, ∃ a, u = Value.ref a := fun u hu => e2 u (hp.mem_iff.mp hu)
    obtain ⟨n, hn⟩ := hn
    refine ⟨.ref d, upd H d (.lst (out.map backV)), I.laid (t' := s.toks) k hd ⟨?_, out, n, vals_back h3, hn⟩, rfl, q _ d ?_ (I.hok.fresh hd)⟩
    · rw [List.length_map, hp.length_eq, ← rv.length]; exact hz
    · rw [e1]; exact hp.map backV
/-- set(t), t a tuple of numbers -/
def rSetT (K : PySem.W.Frag) (w : World) : List V → Hp → VK → Prop := fun xs H Q => ∃ (p : Addr) (ns : List Int), xs = [V.ref p] ∧ SqT K H p (ns.map V.int) ∧ ns.length ≤ 60 ∧
  ∀ (a : Addr) (c : Nat), H a = none → c ≤ ns.length → Q (.ref a) (upd H a (SetO w a (fun j => decide (j ∈ ns)) c))
theorem cr_setT (hc : X.calm = true) : CallR X (.type "set") (rSetT X.K X.w) := by
  intro pins s σ H xs us Q I r h
  obtain ⟨p, ns, rfl, hs, hl, q⟩ := h
  obtain ⟨its, rv, ht, hz⟩ := I.tuple hs
  rw [Vals.ref1 r]
  refine call_set_tupI ns (I.ok.hd hc) (show s.heap.IsTuple p its.toArray from ht) (by simpa using rv.ints) (Nat.lt_of_le_of_lt (Nat.succ_le_succ hl) (by decide)) fun h' tk c R hc' k => ?_
  have J : Inv X pins σ (upd H s.heap.objs.size (SetO X.w s.heap.objs.size (fun j => decide (j ∈ ns)) c)) { s with heap := h', toks := tk } := I.laid (t' := tk) k (Nat.le_refl _) (setO_new R)
  exact ⟨.ref _, _, J, rfl, q _ c (I.hok.fresh (Nat.le_refl _)) hc'⟩
end
/-! ### min of pairs -/
def encP (q : Nat × Nat) : PyData := .tuple [.int (q.1 : Int), .int (q.2 : Int)]
def pLt (a b : Nat × Nat) : Bool := decide (((a.1 : Nat) : Int) < b.1 ∨ (((a.1 : Nat) : Int) = b.1 ∧ ((a.2 : Nat) : Int) < b.2))
def minP (x : Nat × Nat) (l : List (Nat × Nat)) : Nat × Nat := l.foldl (fun a y => if pLt y a then y else a) x
theorem minD_enc : ∀ (l : List (Nat × Nat)) (x : Nat × Nat), PySem.W.minD (encP x) (l.map encP) = encP (minP x l)
  | [], x => rfl
  | y :: l, x => by
    have ih := minD_enc l (if pLt y x then y else x)
    unfold PySem.W.minD minP at ih ⊢
    rw [List.map_cons, List.foldl_cons, List.foldl_cons]
    have e : (if PySem.W.dataLt (encP y) (encP x) = true then encP y else encP x) = encP (if pLt y x then y else x) := by
      have e1 : PySem.W.dataLt (encP y) (encP x) = pLt y x := PySem.W.dataLt_ii _ _ _ _
      rw [e1]
      split <;> rfl
    rw [e]
    exact ih
theorem minP_spec : ∀ (l : List (Nat × Nat)) (x : Nat × Nat), minP x l ∈ x :: l ∧ ∀ r ∈ x :: l, (minP x l).1 < r.1 ∨ ((minP x l).1 = r.1 ∧ (minP x l).2 ≤ r.2)
  | [], x => ⟨by simp [minP], fun r hr => by
    have e : r = x := by simpa using hr
    subst e
    exact .inr ⟨rfl, Nat.le_refl _⟩⟩
  | y :: l, x => by
    have ih := minP_spec l (if pLt y x then y else x)
    have e : minP x (y :: l) = minP (if pLt y x then y else x) l := rfl
    rw [← e] at ih
    obtain ⟨h1, h2⟩ := ih
    have hb := h2 _ List.mem_cons_self
    generalize minP x (y :: l) = m at h1 h2 hb
    refine ⟨?_, fun r hr => ?_⟩
    · rcases List.mem_cons.mp h1 with z | z
      · rw [z]
        split <;> simp
      · exact List.mem_cons_of_mem _ (List.mem_cons_of_mem _ z)
    · rcases List.mem_cons.mp hr with z | z
      · subst z
        by_cases hc : pLt y r = true
        · rw [if_pos hc] at hb
          have := of_decide_eq_true hc
          omega
        · rw [if_neg hc] at hb
          exact hb
      · rcases List.mem_cons.mp z with z | z
        · subst z
          by_cases hc : pLt r x = true
          · rw [if_pos hc] at hb
            exact hb
          · rw [if_neg hc] at hb
            have hc' : ¬ (((r.1 : Nat) : Int) < x.1 ∨ (((r.1 : Nat) : Int) = x.1 ∧ ((r.2 : Nat) : Int) < x.2)) := fun q => hc (decide_eq_true q)
            omega
        · exact h2 r (List.mem_cons_of_mem _ z)
theorem alike_encP (a b : Nat × Nat) : PySem.W.alike (encP a) (encP b) = true := by simp [encP, PySem.W.alike, PySem.W.alikeAll]
theorem depth_encP : ∀ l : List (Nat × Nat), PyData.depthAll (l.map encP) ≤ 1
  | [] => by simp [PyData.depthAll]
  | q :: l => by
    have ih := depth_encP l
    rw [List.map_cons]
    have e : (encP q).depth ≤ 1 := by simp [encP, PyData.depth, PyData.depthAll]
    unfold PyData.depthAll
    exact Nat.max_le.mpr ⟨e, ih⟩
/-- min(xs), xs a list of pairs of numbers -/
def rMinP (K : PySem.W.Frag) : List V → Hp → VK → Prop := fun vs H Q => ∃ (a : Addr) (xs : List V) (l : List (Nat × Nat)), vs = [V.ref a] ∧ SqL K H a xs ∧ l ≠ [] ∧ Paired (fun v q => ∃ t, v = V.ref t ∧ H t = some (.tup [nv q.1, nv q.2])) xs l ∧
  ∀ (q : Nat × Nat) (t : Addr), H t = some (.tup [nv q.1, nv q.2]) → q ∈ l → (∀ r ∈ l, q.1 < r.1 ∨ (q.1 = r.1 ∧ q.2 ≤ r.2)) → Q (.ref t) H
theorem dpAll_pairs {K : PySem.W.Frag} {H : Hp} : ∀ {xs : List V} {l : List (Nat × Nat)}, Paired (fun v q => ∃ t, v = V.ref t ∧ H t = some (.tup [nv q.1, nv q.2])) xs l → DpAll K H xs (l.map encP)
  | _, _, .nil => .nil
  | _, _, .cons r t => by
    obtain ⟨a, rfl, h⟩ := r
    exact .cons (.tup (SqT.of h) (.cons (.int _) (.cons (.int _) .nil))) (dpAll_pairs t)
section
variable {X : Cx}
theorem cr_minP (hc : X.calm = true) (hu : X.A.units + 2 < cLine) : CallR X (.builtin "min") (rMinP X.K) := by
  intro pins s σ H vs us Q I r h
  obtain ⟨a, xs, l, rfl, hs, hne, hp, q⟩ := h
  obtain ⟨its, rv, hl, hz⟩ := I.list hs
  rw [Vals.ref1 r]
  obtain ⟨as, ra⟩ := Dp.readsAll I (l.map encP) xs its (dpAll_pairs hp) rv
  obtain ⟨x, l', rfl⟩ := List.exists_cons_of_ne_nil hne
  refine PySem.W.min_list_data (I.ok.hd hc) hl.isList (by simpa using ra) ⟨fun y hy z hz => ?_, fun y hy => ?_⟩ ?_ fun i v h' tk bs hv rd k => ?_
  · obtain ⟨b, _, rfl⟩ := List.mem_map.mp (show y ∈ (x :: l').map encP from hy)
    obtain ⟨c, _, rfl⟩ := List.mem_map.mp (show z ∈ (x :: l').map encP from hz)
    exact alike_encP b c
  · obtain ⟨b, _, rfl⟩ := List.mem_map.mp (show y ∈ (x :: l').map encP from hy)
    intro z
    cases z
  · have d := depth_encP (x :: l')
    rw [List.map_cons] at d
    omega
  · have J : Inv X pins σ H { s with heap := h', toks := tk } := I.kept k
    have hv' : its[i]? = some v := by simpa using hv
    have hi : i < xs.length := by
      rw [rv.length]
      exact (List.getElem?_eq_some_iff.mp hv').1
    have hx : xs[i]? = some xs[i] := List.getElem?_eq_getElem hi
    obtain ⟨u, hu', ru⟩ := rv.get hx
    rw [hv'] at hu'
    cases hu'
    obtain ⟨p, hp1, t, hp2, hp3⟩ := paired_at hp hx
    rw [hp2] at ru
    obtain rfl : v = Value.ref t := ru
    rw [minD_enc] at rd
    obtain ⟨h1, h2⟩ := minP_spec l' x
    -- the same tuple, read off the heap
    have dp : Dp X.K H (V.ref t) (encP p) := .tup (SqT.of hp3) (.cons (.int _) (.cons (.int _) .nil))
    obtain ⟨as2, r2⟩ := Dp.reads J (encP p) (V.ref t) (Value.ref t) dp rfl
    have e : encP p = encP (minP x l') := PySem.W.alike_unique _ _ _ _ _ (alike_encP _ _) r2 rd
    have e2 : p = minP x l' := by
      unfold encP at e
      injection e with e
      injection e with e3 e4
      injection e4 with e4 _
      injection e3 with e3
      injection e4 with e4
      exact Prod.ext (by omega) (by omega)
    subst e2
    exact ⟨.ref t, H, J, rfl, q _ t hp3 h1 h2⟩
end
end Ts


set_option Elab.async false
set_option linter.all false
set_option maxRecDepth 100000
set_option maxHeartbeats 4000000
/-! Rules that the layer lacks: dicts whose keys are tuples of numbers: walked, by items, list(d.values()), a display of one pair, a comprehension. -/
namespace Ts
open PySem PySem.Spec PyProof.Rows L2 Tm
abbrev keyN (t : List Nat) : List Key := t.map fun n : Nat => (Sum.inl (n : Int) : Key)
abbrev kvN (l : Kvs) : List (List Key × V) := l.map fun q => (keyN q.1, nv q.2)
theorem keyN_kV (t : List Nat) : (keyN t).map kV = tv t := by
  rw [List.map_map]
  rfl
section
variable {X : Cx} {pins : List (Addr × Obj)} {σ : L2.St} {H : Hp} {s : Shared} {d : Addr} {o : Obj}
theorem frzTV {kvs : List (List Key × V)} (I : Inv X pins σ H s) (h : H d = some (.frz o (.dT kvs))) :
    (d == sysModules) = false ∧ s.heap.get? d = some o ∧ o.ExactDict ∧ ∃ (es : Array DictEntry) (ep : Nat), o.data = .dict es ep ∧ es.size = kvs.length ∧
      ∀ (i : Nat) (k : List Key) (v : V), kvs[i]? = some (k, v) → ∃ (en : DictEntry) (q : Addr), es[i]? = some en ∧ en.key = .ref q ∧ H q = some (.tup (k.map kV)) ∧ RelV v en.val := by
  obtain ⟨hd, z, hs, xs, pr, o', es, ep, ho, hx, hdt, he, _⟩ := I.hok d _ h
  rw [hd] at ho
  cases ho
  refine ⟨hs, hd, hx, es, ep, hdt, ?_, fun i k v e => ?_⟩
  · have l1 : es.size = xs.length := size_of_entries he
    have l2 : kvs.length = xs.length := Paired.length pr
    omega
  · obtain ⟨b, hb, e1, e2, e3⟩ := L2.paired_get pr e
    have q := entry_at he i
    rw [hb] at q
    exact ⟨_, b.2.1, q, rfl, e2, e3⟩
end
/-- the pairs (key's own tuple, value), each a new tuple -/
def ItiT (d : Addr) (o : Obj) (kvs : List (List Key × V)) : It :=
  ⟨fun i H => H d = some (.frz o (.dT kvs)) ∧ i < kvs.length, fun i H x H' => ∃ T k v q, kvs[i]? = some (k, v) ∧ x = .ref T ∧ H T = none ∧ H q = some (.tup (k.map kV)) ∧ H' = upd H T (.tup [.ref q, v]), fun i H => H d = some (.frz o (.dT kvs)) ∧ kvs.length ≤ i⟩
theorem turn_itemsT {P : Program} {w : World} {K : PySem.W.Frag} {d : Addr} {o : Obj} {es : Array DictEntry} {ep : Nat} {kvs : List (List Key × V)} {elts : List Expr} {kk : Nat} {tpos : Pos} (it : Addr) (hod : o.data = .dict es ep) :
    Turn P w K (.Tuple elts kk tpos) (ItiT d o kvs) [it] it (fun i h => ∃ ok ov, IsItemIter h it d i kvs.length ep ok ov) where
  mem := by simp
  obj := fun i h st b hb => by
    have e : b = it := by simpa using hb
    subst e
    obtain ⟨ok, ov, e⟩ := st
    exact ⟨_, e, fun v z => nomatch z⟩
  keep := fun i h h' st k => let ⟨ok, ov, e⟩ := st; ⟨ok, ov, k it (by simp) _ e⟩
  item := by
    intro X hP hw hK hc i pins s σ H E I hf st hg
    subst hP hw hK
    obtain ⟨hd, hi⟩ := hg
    obtain ⟨hs, hgd, hx, es', ep', hdt, hsz, ent⟩ := frzTV I hd
    obtain ⟨rfl, rfl⟩ := dict_ep hod hdt
    obtain ⟨⟨k, v⟩, hkv⟩ : ∃ p, kvs[i]? = some p := ⟨kvs[i], List.getElem?_eq_getElem hi⟩
    obtain ⟨en, q, hen, hkey, hq, hval⟩ := ent i k v hkv
    obtain ⟨ok, ov, he⟩ := st
    rw [← hsz] at he
    have hlt : it < s.heap.objs.size := Heap.lt_size he
    have hi' : i < es'.size := by rw [hsz]; exact hi
    have een : es'[i] = en := by
      rw [Array.getElem?_eq_getElem hi'] at hen
      exact Option.some.inj hen
    refine DT.nextI he ⟨o, hgd, hx, hdt⟩ hi' fun h' ho hT hz hk => ?_
    refine ⟨_, rfl, wpAny_letOwnedTupleGo_items (s := { s with heap := h' }) ho fun h'' he' sb => ?_⟩
    have hT2 : h''.get? s.heap.objs.size = some { cls := .type "tuple", data := .seq #[en.key, en.val] } := by
      rw [← een]
      exact (sb.2 _ (Nat.ne_of_gt hlt)).trans hT
    have new : ObjOk X.prog X.w (upd H s.heap.objs.size (.tup [.ref q, v])) h'' s.heap.objs.size (.tup [.ref q, v]) :=
      ⟨by show 2 ≤ sizeLine; decide, [en.key, en.val], .cons hkey (.cons hval .nil), ⟨_, hT2, rfl, _, rfl⟩⟩
    have I1 : Inv X pins σ (upd H s.heap.objs.size (.tup [.ref q, v])) { s with heap := h'' } :=
      I.turnedNew (t' := s.toks) (ch := [it]) (fun b ob hb e => (sb.2 b (by simpa using hb)).trans (hk b ob (by simpa using hb) e)) hf (Nat.le_refl _) new
    refine ⟨.ref s.heap.objs.size, _, I1, rfl, ⟨_, k, v, q, hkv, rfl, I.hok.fresh (Nat.le_refl _), hq, rfl⟩, ⟨en.key, en.val, ?_⟩, fun b hb => ?_⟩
    · rw [← hsz, ← een]; exact he'
    · have e : b = it := by simpa using hb
      rw [e, upd_ne (Nat.ne_of_lt hlt)]
      exact (hf it (by simp)).1
  done := by
    intro X hP hw hK hc i pins s σ H E I hf st hg
    subst hP hw hK
    obtain ⟨hd, hi⟩ := hg
    obtain ⟨f0, f1, f2, f3, f4, f5⟩ := hf it (by simp)
    obtain ⟨hs, hgd, hx, es', ep', hdt, hsz, ent⟩ := frzTV I hd
    obtain ⟨rfl, rfl⟩ := dict_ep hod hdt
    obtain ⟨ok, ov, he⟩ := st
    rw [← hsz] at he
    exact DT.endI (I.ok.hd hc) he ⟨o, hgd, hx, hdt⟩ (by omega) fun h' eb => ⟨rfl, I.turned (t' := s.toks) (fun b ob hb e => eb b ob hb e) f0 f1 f3 f4 f5⟩
  self := fun A i s Q E st h => let ⟨_, _, e⟩ := st; PySem.W.kcp_self e h
/-- d.items() of a dict that is changed no more: it is locked from here on -/
def iItemsT (td : TE) : TI := fun σ H R => td σ H fun x H1 => ∃ d kvs, x = .ref d ∧ H1 d = some (.dT kvs) ∧ ∀ o, R (ItiT d o kvs) (upd H1 d (.frz o (.dT kvs)))
/-- the same of its keys -/
def iKeysT (td : TE) : TI := fun σ H R => td σ H fun x H1 => ∃ d kvs, x = .ref d ∧ H1 d = some (.dT kvs) ∧ ∀ o, R (Itkt d o kvs) (upd H1 d (.frz o (.dT kvs)))
section
variable {X : Cx} {tg e : Expr} {td : TE} {apos cpos : Pos}
theorem pi_itemsT {elts : List Expr} {kk : Nat} {tpos : Pos} (he : PE X e td) (hbase : attributeBase e "items" X.env (eval e X.env) = eval e X.env := by rfl) (hline : (apos.endLine == cpos.line) = true := by rfl) :
    PI X (.Tuple elts kk tpos) (.Call (.Attribute e "items" apos) [] [] cpos) (iItemsT td) := by
  refine ⟨fun pins s σ H R I h => ?_⟩
  refine wpAny_Call_method (T := "dict") (id := "dict.items") hbase rfl hline PySem.F.plainAttrs_dict PySem.F.slot_dict_items PySem.F.type_dict_items (thn (he.run pins s σ H _ I h) fun u s1 ⟨x, H1, I1, rx, d, kvs, ex, hd, q⟩ => ?_)
  subst ex
  obtain rfl : u = Value.ref d := rx
  obtain ⟨od, IL⟩ := I1.lock hd (by trivial)
  have hL : (upd H1 d (.frz od (.dT kvs))) d = some (.frz od (.dT kvs)) := upd_same
  obtain ⟨hs, hgd, hx, es, ep, hdt, hsz, ent⟩ := frzTV IL hL
  have hm : DT.Raw s1.heap d es ep := ⟨od, hgd, hx, hdt⟩
  refine ⟨hm.typeIs, fun a ea => (by cases ea; exact ⟨od, hgd, hx.2.1⟩), ?_⟩
  have I2 : Inv X pins σ (upd H1 d (.frz od (.dT kvs))) { s1 with heap := s1.heap.push { cls := .type "dict_items", data := .fields #[.ref d] } } := IL.kept (t' := s1.toks) fun b ob q => Heap.get?_push_of_some _ q
  have fin : wpAny (model X.prog X.w) X.A (pyIter (.ref s1.heap.objs.size)) (PIE X pins σ (.Tuple elts kk tpos) R) X.xe { s1 with heap := s1.heap.push { cls := .type "dict_items", data := .fields #[.ref d] } } := by
    refine DT.iterI (d := d) ⟨_, Heap.get?_push_size _ rfl, rfl, rfl⟩ (hm.push _) (pi_one (tk := s1.toks) I2 _ (turn_itemsT _ hdt) ⟨.none, .none, ?_⟩ (q od))
    rw [← hsz]
    exact Heap.get?_push_size _ rfl
  show wpAny _ _ (callWith cpos (.builtin "dict.items") [.ref d] [] []) _ X.xe s1
  exact Calls.callWith_builtin (by rfl) (PySem.evalArgs_none (DT.callItems hs hm fin))
theorem pi_keysT2 (he : PE X e td) : PI X tg e (iKeysT td) := by
  refine ⟨fun pins s σ H R I h => ?_⟩
  refine thn (he.run pins s σ H _ I h) fun u s1 ⟨x, H1, I1, rx, d, kvs, ex, hd, q⟩ => ?_
  subst ex
  obtain rfl : u = Value.ref d := rx
  obtain ⟨od, IL⟩ := I1.lock hd (by trivial)
  have hL : (upd H1 d (.frz od (.dT kvs))) d = some (.frz od (.dT kvs)) := upd_same
  obtain ⟨hs, hgd, hx, es, ep, hdt, hsz, ent⟩ := frzTV IL hL
  refine iter_keys hs hgd hx hdt (pi_one (tk := s1.toks) IL _ (turn_keysT _ hdt) ⟨_, Heap.get?_push_size _ rfl, rfl, ?_⟩ (q od))
  rw [hsz] <;> rfl
end
/-! ### comprehensions over them -/
section
variable {β : Type} {l : Kvs} {S : Hp → V → β → Prop} {g : TG} {tt : TT} {te : TE} {vs : List Nat} {σ : L2.St} {H1 : Hp} {Q : VK} {d : Addr} {o : Obj}
theorem kvN_at {i : Nat} {k : List Key} {v : V} (h : (kvN l)[i]? = some (k, v)) : ∃ q, l[i]? = some q ∧ k = keyN q.1 ∧ v = nv q.2 := by
  rw [List.getElem?_map] at h
  cases e : l[i]? with
  | none => rw [e] at h; cases h
  | some q =>
    rw [e] at h
    have e2 : (keyN q.1, nv q.2) = (k, v) := Option.some.inj h
    obtain ⟨e3, e4⟩ := Prod.mk.inj e2
    exact ⟨q, rfl, e3.symm, e4.symm⟩
theorem mapI (p : List Nat × Nat → Bool) (f : List Nat × Nat → β) (hx : H1 d = some (.frz o (.dT (kvN l)))) (hl : l.length ≤ 100000) (hS : ∀ H H' v b, Tup H H' → S H v b → S H' v b)
    (turn : ∀ (T b : Addr) (q : List Nat × Nat) (H2 : Hp) (N : Hp → Prop) (Kt : VK), q ∈ l → Same H1 H2 → H2 T = some (.tup [.ref b, nv q.2]) → H2 b = some (.tup (tv q.1)) → (p q = false → ∀ H3, Same H2 H3 → N H3) → (p q = true → ∀ y H3, Same H2 H3 → S H3 y (f q) → Kt y H3) → TurnOk g tt te vs σ (.ref T) H2 N Kt)
    (fin : ∀ D ys H2, H1 D = none → Same H1 H2 → H2 D = some (.lst ys) → Paired (S H2) ys ((l.filter p).map f) → Q (.ref D) H2) :
    ∀ D, H1 D = none → ∃ W : Nat → Nat → Hp → Prop, (∃ m, W 0 m (upd H1 D (.lst []))) ∧ ∀ i m H, W i m H →
      ((ItiT d o (kvN l)).stop i H ∧ Q (.ref D) H) ∨ ((ItiT d o (kvN l)).go i H ∧ ∃ Nx : Hp → Prop, (∀ H', Nx H' → ∃ m', m' < m ∧ W (i + 1) m' H') ∧ ∀ x H', (ItiT d o (kvN l)).yld i H x H' → g x (wipe σ vs) H' fun σ2 H2 => wipe σ2 vs = wipe σ vs ∧ tt σ2 H2 fun b H3 =>
        if b = true then te σ2 H3 fun y H4 => ∃ acc, H4 D = some (.lst acc) ∧ acc.length < sizeLine ∧ Nx (upd H4 D (.lst (acc ++ [y]))) else Nx H3) := by
  intro D hD
  refine ⟨fun i m H => m = l.length - i ∧ i ≤ l.length ∧ LcP H1 D S p f l i H, ⟨l.length, by simp, Nat.zero_le _, lc_zero hD⟩, ?_⟩
  rintro i m H ⟨rfl, hi, P⟩
  have hd := P.1 _ _ hx
  by_cases hlt : i < l.length
  · refine .inr ⟨⟨hd, by rw [List.length_map]; exact hlt⟩, LcP H1 D S p f l (i + 1), fun H' p' => ⟨l.length - (i + 1), by omega, rfl, hlt, p'⟩, fun x H' y => ?_⟩
    obtain ⟨T, k, v, b, hkv, rfl, hT, hb, rfl⟩ := y
    obtain ⟨q, hq, rfl, rfl⟩ := kvN_at hkv
    rw [keyN_kV] at hb
    have P2 : LcP H1 D S p f l i (upd H T (.tup [.ref b, nv q.2])) := by
      obtain ⟨h1, acc, h2, h3⟩ := P
      refine ⟨h1.trans (same_new hT), acc, same_new hT _ _ h2, paired_mono (fun v b => hS _ _ v b (tup_of (same_new hT))) h3⟩
    exact lc_turn hD hl hS hq P2 fun N Kt => turn T b q _ N Kt (List.mem_of_getElem? hq) P2.1 upd_same (same_new hT _ _ hb)
  · have e : i = l.length := by omega
    subst e
    exact .inl ⟨⟨hd, by rw [List.length_map]; exact Nat.le_refl _⟩, lc_fin rfl P (fun ys H2 e h1 h2 => fin D ys H2 hD e h1 h2)⟩
theorem mapK (p : List Nat × Nat → Bool) (f : List Nat × Nat → β) (hx : H1 d = some (.frz o (.dT (kvN l)))) (hl : l.length ≤ 100000) (hS : ∀ H H' v b, Tup H H' → S H v b → S H' v b)
    (turn : ∀ (b : Addr) (q : List Nat × Nat) (H2 : Hp) (N : Hp → Prop) (Kt : VK), q ∈ l → Same H1 H2 → H2 b = some (.tup (tv q.1)) → (p q = false → ∀ H3, Same H2 H3 → N H3) → (p q = true → ∀ y H3, Same H2 H3 → S H3 y (f q) → Kt y H3) → TurnOk g tt te vs σ (.ref b) H2 N Kt)
    (fin : ∀ D ys H2, H1 D = none → Same H1 H2 → H2 D = some (.lst ys) → Paired (S H2) ys ((l.filter p).map f) → Q (.ref D) H2) :
    ∀ D, H1 D = none → ∃ W : Nat → Nat → Hp → Prop, (∃ m, W 0 m (upd H1 D (.lst []))) ∧ ∀ i m H, W i m H →
      ((Itkt d o (kvN l)).stop i H ∧ Q (.ref D) H) ∨ ((Itkt d o (kvN l)).go i H ∧ ∃ Nx : Hp → Prop, (∀ H', Nx H' → ∃ m', m' < m ∧ W (i + 1) m' H') ∧ ∀ x H', (Itkt d o (kvN l)).yld i H x H' → g x (wipe σ vs) H' fun σ2 H2 => wipe σ2 vs = wipe σ vs ∧ tt σ2 H2 fun b H3 =>
        if b = true then te σ2 H3 fun y H4 => ∃ acc, H4 D = some (.lst acc) ∧ acc.length < sizeLine ∧ Nx (upd H4 D (.lst (acc ++ [y]))) else Nx H3) := by
  intro D hD
  refine ⟨fun i m H => m = l.length - i ∧ i ≤ l.length ∧ LcP H1 D S p f l i H, ⟨l.length, by simp, Nat.zero_le _, lc_zero hD⟩, ?_⟩
  rintro i m H ⟨rfl, hi, P⟩
  have hd := P.1 _ _ hx
  by_cases hlt : i < l.length
  · refine .inr ⟨⟨hd, by rw [List.length_map]; exact hlt⟩, LcP H1 D S p f l (i + 1), fun H' p' => ⟨l.length - (i + 1), by omega, rfl, hlt, p'⟩, fun x H' y => ?_⟩
    obtain ⟨rfl, k, v, b, hkv, rfl, hb⟩ := y
    obtain ⟨q, hq, rfl, rfl⟩ := kvN_at hkv
    rw [keyN_kV] at hb
    exact lc_turn hD hl hS hq P fun N Kt => turn b q _ N Kt (List.mem_of_getElem? hq) P.1 hb
  · have e : i = l.length := by omega
    subst e
    exact .inl ⟨⟨hd, by rw [List.length_map]; exact Nat.le_refl _⟩, lc_fin rfl P (fun ys H2 e h1 h2 => fin D ys H2 hD e h1 h2)⟩
end
end Ts


set_option Elab.async false
set_option linter.all false
set_option maxRecDepth 100000
set_option maxHeartbeats 4000000
/-! Rules that the layer lacks, dicts whose keys are tuples: a display of one pair, d.values(), a comprehension. -/
namespace Ts
open PySem PySem.Spec PyProof.Rows L2 Tm
section
variable {X : Cx}
theorem paired_of_get {α β : Type} {R : α → β → Prop} : ∀ {xs : List α} {ys : List β}, xs.length = ys.length → (∀ (j : Nat) (x : α), xs[j]? = some x → ∃ y, ys[j]? = some y ∧ R x y) → Paired R xs ys
  | [], [], _, _ => .nil
  | [], _ :: _, h, _ => by simp at h
  | _ :: _, [], h, _ => by simp at h
  | x :: xs, y :: ys, h, f => by
    obtain ⟨z, h1, h2⟩ := f 0 x rfl
    cases Option.some.inj h1
    exact .cons h2 (paired_of_get (by simpa using h) fun j u e => by
      obtain ⟨z, h1, h2⟩ := f (j + 1) u (by simpa using e)
      exact ⟨z, by simpa using h1, h2⟩)
/-- {k: v} of a tuple key -/
def tDisp1 (tk tv : TE) : TE := fun σ H Q => ∀ p, H p = none → tPairs [(tk, tv)] σ (upd H p (.dT [])) fun ps H2 => ∃ x y, ps = [(x, y)] ∧ H2 p = some (.dT []) ∧ ∃ (k : List L2.Key) (b : Addr), x = .ref b ∧ H2 b = some (.tup (k.map kV)) ∧ Q (.ref p) (upd H2 p (.dT [(k, y)]))
theorem pe_disp1 {pos : Pos} {k v : Expr} {tk tv : TE} (hu : X.A.units + 1 < cLine) (hk : PE X k tk) (hv : PE X v tv) : PE X (.Dict [some k] [v] pos) (tDisp1 tk tv) := by
  refine ⟨fun pins s σ H Q I q => ?_⟩
  have hn := I.hok.fresh (Nat.le_refl s.heap.objs.size)
  have I1 := I.laid (a := s.heap.objs.size) (o := .dT []) (h' := s.heap.push { cls := .type "dict", data := .dict #[] }) (t' := s.toks) (fun _ _ q => Heap.get?_push_of_some _ q) (Nat.le_refl _) (dt_empty s.heap I.big)
  have pp : PPs X pos [some k] [v] [(tk, tv)] := pps_cons hk hv pps_nil
  rw [arm_eval_Dict, zip_pairTrees [some k] [v] X.env pos (by rfl) (by rfl), dictDisplay_pairs (pairTrees [some k] [v] X.env pos) (fun z => by cases z) (by show 1 < 17; decide)]
  refine wpAny_bind (wpAny_standAt (wpAny_bind (wpAny_subDictH (knd := tupleKind (mixKind X.prog X.w)) (Nat.lt_of_succ_lt hu) (by show 1 ≤ 15; decide)
    (thn (pp.run pins _ σ _ (fun ps H2 => ∃ x y, ps = [(x, y)] ∧ H2 s.heap.objs.size = some (.dT []) ∧ ∃ (k : List L2.Key) (b : Addr), x = .ref b ∧ H2 b = some (.tup (k.map kV)) ∧ Q (.ref s.heap.objs.size) (upd H2 s.heap.objs.size (.dT [(k, y)]))) I1 (q _ hn)) fun ws s2 hq => ?_))))
  obtain ⟨ps, H2, I2, rel, x, y, rfl, e, kk, b, rfl, eb, q2⟩ := hq
  cases rel with
  | cons r rr =>
    cases rr
    rename_i wv
    obtain ⟨u, w2⟩ := wv
    obtain ⟨r1, r2⟩ := r
    obtain rfl : u = Value.ref b := r1
    obtain ⟨z, hd, xs0, rel0, dd⟩ := dt_rd I2.hok (.inl e)
    cases rel0
    refine ⟨[(kk, b, w2)], ⟨rfl, rfl, key_of I2.hok eb, True.intro⟩, dd, fun h' tk dd' hs => wpAny_pure ?_⟩
    obtain ⟨o, es, ep, hq, h2, h3, h4, h5, h6⟩ := dd'
    have ne : b ≠ s.heap.objs.size := ne_of eb e (fun z => nomatch z)
    have new : ObjOk X.prog X.w (upd H2 s.heap.objs.size (.dT [(kk, y)])) h' s.heap.objs.size (.dT [(kk, y)]) :=
      ⟨by show 1 ≤ sizeLine; decide, hd, [(kk, b, w2)], .cons ⟨rfl, by rw [upd_ne ne]; exact eb, r2⟩ .nil, o, es, ep, hq, h2, h3, h4, h6⟩
    exact ⟨.ref s.heap.objs.size, _, d_write I2 (by rw [e]; exact True.intro) hs ⟨o, hq⟩ new, rfl, q2⟩
/-! ### d.values() -/
end
theorem meetsValuesRaw {prog : Program} {w : World} {d : Addr} {es : Array DictEntry} {ep : Nat} (hd : (d == sysModules) = false) :
    MeetsIn prog w (Builtin.«dict.values» ⟨[.ref d], []⟩) (fun _ R s => DT.Raw s.heap d es ep ∧
      R (.ok (.ret (.ref s.heap.objs.size))) { s with heap := s.heap.push { cls := .type "dict_values", data := .fields #[.ref d] } }) :=
  .of_wp fun A R s ⟨hm, h⟩ => by
    unfold Builtin.«dict.values»
    refine wpAny_bind ?_
    unfold Builtin.Dict.noArgs
    refine wpAny_bind (wpAny_notOrdered_dict hm.typeIs ?_)
    show wpAny _ _ (pure d) _ _ s
    refine wpAny_pure ?_
    show wpAny _ _ (Builtin.Dict.showsAll d >>= _) _ _ s
    unfold Builtin.Dict.showsAll
    rw [if_neg (by rw [hd]; exact Bool.false_ne_true)]
    refine wpAny_bind (wpAny_pure ?_)
    exact wpAny_bind (wpAny_newObj_type (wpAny_pure ⟨_, rfl, h⟩))
/-- the view d.values() at p -/
def valsO (p d : Addr) : HO := .ext fun h => h.IsValuesView p d
theorem valsO_ok {P : Program} {w : World} {H : Hp} {h : Heap} {p d : Addr} (e : h.get? p = some { cls := .type "dict_values", data := .fields #[.ref d] }) : ObjOk P w H h p (valsO p d) :=
  ⟨⟨_, e, rfl, rfl⟩, ⟨_, e⟩, fun h1 h2 x k => let ⟨o, ho, r⟩ := x; ⟨o, k o ho, r⟩⟩
section
variable {X : Cx}
def rValuesT : V → List V → Hp → VK → Prop := fun x xs H Q => ∃ (a : Addr) (kvs : List (List L2.Key × V)), x = .ref a ∧ xs = [] ∧ H a = some (.dT kvs) ∧ ∀ p, H p = none → Q (.ref p) (upd H p (valsO p a))
theorem mt_valuesT : MtR X "dict.values" rValuesT := by
  intro pins s σ H x xs v us Q I rx rxs h
  obtain ⟨a, kvs, rfl, rfl, ha, q⟩ := h
  cases rx
  cases rxs
  obtain ⟨z, hd, xs', rel, o, es, ep, ho, hx, hdat, _⟩ := dt_of I.hok ha
  have hm : DT.Raw s.heap a es ep := ⟨o, ho, hx, hdat⟩
  refine call_meetsIn PySem.F.slot_dict_values hm.typeIs PySem.F.entry_dict_values (PySem.F.args_dict_values_1 _) (meetsValuesRaw (es := es) (ep := ep) hd) ⟨hm, ?_⟩
  have hf : H s.heap.objs.size = none := I.hok.fresh (Nat.le_refl _)
  exact ⟨.ref s.heap.objs.size, upd H s.heap.objs.size (valsO s.heap.objs.size a), I.laid (t' := s.toks) (fun b u e => Heap.get?_push_of_some _ e) (Nat.le_refl _) (valsO_ok (Heap.get?_push_size _ rfl)), rfl, q _ hf⟩
/-- list(d.values()) -/
theorem call_list_vals (hc : X.calm = true) : CallR X (.type "list") (fun xs H Q => ∃ p d kvs, xs = [V.ref p] ∧ H p = some (valsO p d) ∧ H d = some (.dT kvs) ∧ ∀ D, H D = none → Q (.ref D) (upd H D (.lst (kvs.map (·.2))))) := by
  intro pins s σ H xs us Q I r h
  obtain ⟨p, d, kvs, rfl, hp, hd, q⟩ := h
  obtain ⟨u, rfl, rx⟩ := r.one
  cases rx
  obtain ⟨hv, _, _⟩ := I.hok p _ hp
  have hv : s.heap.IsValuesView p d := hv
  obtain ⟨z, hs, ks, pr, o, es, ep, ho, hx, hdt, he, hn⟩ := (show ObjOk X.prog X.w H s.heap d (.dT kvs) from I.hok d _ hd)
  have l1 : es.size = ks.length := size_of_entries he
  have l2 : kvs.length = ks.length := Paired.length pr
  refine PySem.W.kdl_call (KdlSrc.rawValues (es := es) (ep := ep)) (I.ok.hd hc) ⟨hv, o, ho, hx, hdt⟩ (by omega) fun h' tk acc' c' kp e it => ?_
  have rv : Vals (kvs.map (·.2)) acc'.toList := by
    refine paired_of_get ?_ ?_
    · have q1 := it.1
      have q2 : acc'.toList.length = acc'.size := Array.length_toList
      rw [List.length_map]
      omega
    · intro j y hy
      rw [List.getElem?_map] at hy
      cases hkv : kvs[j]? with
      | none => rw [hkv] at hy; cases hy
      | some kv =>
        rw [hkv] at hy
        have e0 : kv.2 = y := Option.some.inj hy
        subst e0
        obtain ⟨b, hb, e1, e2, e3⟩ := L2.paired_get pr hkv
        have qe := entry_at he j
        rw [hb] at qe
        have hj : j < acc'.toList.length := by
          have q1 := it.1
          have q2 : acc'.toList.length = acc'.size := Array.length_toList
          have q3 := (List.getElem?_eq_some_iff.mp hb).1
          omega
        have hv2 := List.getElem?_eq_getElem hj
        obtain ⟨hi, hv3⟩ := it.2 j _ (by rw [← Array.getElem?_toList]; exact hv2)
        refine ⟨_, hv2, ?_⟩
        rw [hv3]
        rw [Array.getElem?_eq_getElem hi] at qe
        rw [Option.some.inj qe]
        exact e3
  have hz : (kvs.map (·.2)).length ≤ sizeLine := by rw [List.length_map]; exact z
  refine ⟨.ref s.heap.objs.size, _, I.laid (t' := tk) (o := .lst (kvs.map (·.2))) kp (Nat.le_refl _) ?_, rfl, q _ (I.hok.fresh (Nat.le_refl _))⟩
  exact ⟨hz, acc'.toList, c', rv, by rw [Array.toArray_toList]; exact e⟩
end
/-! ### comprehensions -/
/-- d[k] = v by a comprehension, the key a tuple -/
theorem d_dictSetT {X : Cx} {pins : List (Addr × Obj)} {σ : L2.St} {H : Hp} {s : Shared} {E : Value → Shared → Prop} {D b : Addr} {kvs : List (List L2.Key × V)} {k : List L2.Key} {v : V} {u r : Value} {Q : Unit → Shared → Prop} (hu : X.A.units + 2 < cLine) (I : Inv X pins σ H s) (hb : H b = some (.tup (k.map kV)))
    (hD : H D = some (.dT kvs)) (hz : kvs.length < sizeLine) (ry : RelV (.ref b) u) (rv : RelV v r) (h : ∀ s', Inv X pins σ (upd H D (.dT (putK kvs k v))) s' → Q () s') : wpAny (model X.prog X.w) X.A (dictSet D u r) Q E s := by
  obtain rfl : u = Value.ref b := ry
  obtain ⟨z, hd, vs, rel, dd⟩ := dt_rd I.hok (.inl hD)
  have hzv : vs.length ≤ sizeLine := by
    have q := Paired.length rel
    omega
  have hl : (putK kvs k v).length ≤ sizeLine := by
    have := length_putK kvs k v
    omega
  refine wpAny_dictSet_heap (hsz := hzv) (knd := tupleKind (mixKind X.prog X.w)) (by show X.A.units < cLine; omega) (key_of I.hok hb) dd fun h' dd' hs => h _ ?_
  obtain ⟨q, es, ep, hq, h2, h3, h4, _, h5⟩ := dd'
  refine d_write I (by rw [hD]; exact True.intro) hs ⟨q, hq⟩ ⟨hl, hd, _, (rel.put k hb rv).keeps fun c ys ec => ?_, q, es, ep, hq, h2, h3, h4, h5⟩
  rw [upd_ne (ne_of ec hD (fun z => nomatch z))]
  exact ec
section
variable {X : Cx}
/-- {k: v for target in iter if ..}, keys tuples of ints: D the new dict (after the layer's rule for plain keys) -/
def tDcT (wi : TI) (g : TG) (tt : TT) (tk tv : TE) (vs : List Nat) : TE := fun σ H Q => wi σ H fun J H1 => ∀ D, H1 D = none → ∃ W : Nat → Nat → Hp → Prop, (∃ m, W 0 m (upd H1 D (.dT []))) ∧ ∀ i m H, W i m H →
  (J.stop i H ∧ Q (.ref D) H) ∨ (J.go i H ∧ ∃ Nx : Hp → Prop, (∀ H', Nx H' → ∃ m', m' < m ∧ W (i + 1) m' H') ∧ ∀ x H', J.yld i H x H' → g x (wipe σ vs) H' fun σ2 H2 => wipe σ2 vs = wipe σ vs ∧ tt σ2 H2 fun b H3 =>
    if b = true then tk σ2 H3 fun y H4 => tv σ2 H4 fun z H5 => ∃ (kvs : List (List L2.Key × V)) (k : List L2.Key) (b : Addr), y = .ref b ∧ H5 b = some (.tup (k.map kV)) ∧ H5 D = some (.dT kvs) ∧ kvs.length < sizeLine ∧ Nx (upd H5 D (.dT (putK kvs k z))) else Nx H3)
theorem dc_coreT (hu : X.A.units + 2 < cLine) {pins : List (Addr × Obj)} {s : Shared} {σ : L2.St} {H : Hp} {Q : VK} {kx vx tg iter : Expr} {ifs : List Expr} {scope : Scope} {own : List (Str × Nat)} {pos pos' : Pos} {wi : TI} {g : TG} {tt : TT} {tk tv : TE} {use : Option (Value → Sem Unit)} {Qf : Value → Shared → Prop}
    (hc : X.calm = true) (hN : X.N.Nodup) (I : Inv X pins σ H s) (hi : PI X tg iter wi) (ok : BlkOk X.N X.env.scope scope own)
    (hg : ∀ (s : Shared) (H : Hp) (C : Addr) (cl : List (Str × Addr)) (fp : List Addr), PG (X.blk s H scope (compEnvC scope cl C X.env) fp) tg g) (ht : ∀ (s : Shared) (H : Hp) (C : Addr) (cl : List (Str × Addr)) (fp : List Addr), PTs (X.blk s H scope (compEnvC scope cl C X.env) fp) ifs tt)
    (hk : ∀ (s : Shared) (H : Hp) (C : Addr) (cl : List (Str × Addr)) (fp : List Addr), PE (X.blk s H scope (compEnvC scope cl C X.env) fp) kx tk)
    (he : ∀ (s : Shared) (H : Hp) (C : Addr) (cl : List (Str × Addr)) (fp : List Addr), PE (X.blk s H scope (compEnvC scope cl C X.env) fp) vx tv) (hs : ∀ x, foldedSetIterable iter X.env x = pure x)
    (h : tDcT wi g tt tk tv (own.map (·.2)) σ H Q)
    (hRR : ∀ D C s' m H', Inv X pins σ H' s' → Q (.ref D) H' → s'.heap.Ns C m → FpOk X pins H' C → compPost (model X.prog X.w) X.A X.xe use Qf (.ref D) C (.ok .next) s') :
    wpAny (model X.prog X.w) X.A (comprehension (.DictComp kx vx [⟨tg, iter, ifs, 0⟩] scope pos) scope X.env pos' newDict false (eval iter X.env) use) Qf X.xe s := by
  have hfree : ∀ y ∈ scope.names, y.2 = .free → ∃ c, X.env.cells.lookup y.1 = some c := fun y hy e => by
    rcases ok.free y hy e with k | k
    · exact I.ok.has _ (.inl k)
    · exact I.ok.has _ (.inr k)
  refine wpAny_comprehension_free (use := use) rfl hs (closure_ok hfree) ok.kind (fun y hy e => by rw [ok.uniq y hy, e])
    (thn (hi.run pins s σ H _ I h) fun xv s1 hx => thn hx fun itv s2 h2 => ?_)
  obtain ⟨it, fp, tn, J, H2, e, I2, T, st2, f2, q⟩ := h2
  subst e
  refine wpAny_newObj_type (newEnv_comp ?_)
  generalize hD : s2.heap.objs.size = D
  have hDn : H2 D = none := I2.hok.fresh (Nat.le_of_eq hD)
  obtain ⟨W, ⟨m0, w0⟩, turn⟩ := q D hDn
  -- the new list
  generalize hs3 : ({ s2 with heap := s2.heap.push { cls := .type "dict", data := .dict #[] } } : Shared) = s3
  have I3 : Inv X pins σ (upd H2 D (.dT [])) s3 := by
    rw [← hs3]
    refine I2.laid (t' := s2.toks) (fun b o e => Heap.get?_push_of_some _ e) (Nat.le_of_eq hD) ?_
    rw [← hD]
    exact dt_empty s2.heap I2.big
  have h3 : s3.heap = s2.heap.push { cls := .type "dict", data := .dict #[] } := by rw [← hs3]
  have sz : ∀ b ∈ fp, b < s2.heap.objs.size := fun b hb => by
    obtain ⟨o, e, _⟩ := T.obj _ _ st2 b hb
    exact Heap.lt_size e
  have f3 : ∀ b ∈ fp, FpOk X pins (upd H2 D (.dT [])) b ∧ b < s3.heap.objs.size := fun b hb => by
    have hlt := sz b hb
    refine ⟨⟨?_, (f2 b hb).2⟩, by rw [h3, Heap.size_push]; exact Nat.lt_succ_of_lt hlt⟩
    rw [upd_ne (by rw [← hD]; exact Nat.ne_of_lt hlt)]
    exact (f2 b hb).1
  have st3 : tn 0 s3.heap := T.keep _ _ _ st2 fun b _ o e => by rw [h3]; exact Heap.get?_push_of_some _ e
  have I4 := block_start I3 ok hN f3
  have pg := hg s3 (upd H2 D (.dT [])) s3.heap.objs.size (cellsFrom (s3.heap.objs.size + 1) scope.names (cloFrom X.env.cells scope.names [])) fp
  have pt := ht s3 (upd H2 D (.dT [])) s3.heap.objs.size (cellsFrom (s3.heap.objs.size + 1) scope.names (cloFrom X.env.cells scope.names [])) fp
  have pk := hk s3 (upd H2 D (.dT [])) s3.heap.objs.size (cellsFrom (s3.heap.objs.size + 1) scope.names (cloFrom X.env.cells scope.names [])) fp
  have pe := he s3 (upd H2 D (.dT [])) s3.heap.objs.size (cellsFrom (s3.heap.objs.size + 1) scope.names (cloFrom X.env.cells scope.names [])) fp
  show codeAny _ _ (.compStart (.DictComp kx vx [⟨tg, iter, ifs, 0⟩] scope pos) 0 (.ref it) (.ref D) (compEnvC scope (cellsFrom (s3.heap.objs.size + 1) scope.names (cloFrom X.env.cells scope.names [])) s3.heap.objs.size X.env)) (compPost (model X.prog X.w) X.A X.xe use Qf (.ref D) s3.heap.objs.size) { s3 with heap := pushCells (s3.heap.push { cls := .type "dict", data := .dict #[] }) scope.names }
  have nfp : ∀ b ∈ fp, (upd H2 D (.dT [])) b = none := fun b hb => (f3 b hb).1.1
  generalize hce : compEnvC scope (cellsFrom (s3.heap.objs.size + 1) scope.names (cloFrom X.env.cells scope.names [])) s3.heap.objs.size X.env = ce at I4 pg pt pk pe ⊢
  have cL : ce.locals = s3.heap.objs.size := by subst hce; rfl
  generalize hH3 : upd H2 D (.dT []) = H3 at I3 I4 pg pt pk pe w0 nfp f3
  generalize hs4 : ({ s3 with heap := pushCells (s3.heap.push { cls := .type "dict", data := .dict #[] }) scope.names } : Shared) = s4 at I4 ⊢
  have st4 : tn 0 s4.heap := T.keep _ _ _ st3 fun b _ o e => by rw [← hs4]; exact pushCells_keeps _ _ _ _ (Heap.get?_push_of_some _ e)
  have stat : ∀ {σ' : L2.St} {H' : Hp} {s' : Shared}, Inv (X.blk s3 H3 scope ce fp) [] σ' H' s' → (∀ b ∈ fp, H' b = none) → ∀ b ∈ fp, FpOk (X.blk s3 H3 scope ce fp) [] H' b := fun {σ' H' s'} I' hn b hb =>
    ⟨hn b hb, (I'.ok.exf b hb).1, I'.ok.exfs b hb, .inl hb, fun x c e => (I'.ok.exf b hb).2 x c e, fun p hp => absurd (show p ∈ ([] : List (Addr × Obj)) ++ [] from hp) (by simp)⟩
  have loop : codeAny (model X.prog X.w) X.A (.compLoop (.DictComp kx vx [⟨tg, iter, ifs, 0⟩] scope pos) 0 (.ref it) (.ref D) ce) (compPost (model X.prog X.w) X.A X.xe use Qf (.ref D) s3.heap.objs.size) s4 := by
    refine compLoop_anyD (fun n s' => ∃ i H', Inv (X.blk s3 H3 scope ce fp) [] (wipe σ (own.map (·.2))) H' s' ∧ tn i s'.heap ∧ (∀ b ∈ fp, H' b = none) ∧ W i n H') ?_ m0 ⟨0, H3, I4, st4, nfp, w0⟩
    rintro n s5 ⟨i, H5, I5, st5, n5, w5⟩
    rcases turn i n H5 w5 with ⟨stop, qq⟩ | ⟨go, Nx, hNx, step⟩
    · have td := T.done (X.blk s3 H3 scope ce fp) rfl rfl rfl hc i [] s5 _ H5 (fun _ _ => False) I5 (stat I5 n5) st5 stop
      refine thnF td fun r s6 ⟨hr, I6⟩ => ?_
      subst hr
      -- back in the def's context
      have I7 : Inv X pins σ H5 s6 := I3.call' (ch := fp) I6.os I6.base I6.hok I6.bare fun b hb => ⟨(f3 b hb).1.2.2.2.1, (f3 b hb).1.2.1, (f3 b hb).1.2.2.2.2.1, (f3 b hb).1.2.2.2.2.2⟩
      have nC : H5 s3.heap.objs.size = none := by
        have z : H5 ce.locals = none := I6.free
        rw [cL] at z
        exact z
      obtain ⟨m, hn, _⟩ := I6.loc
      have hn : s6.heap.Ns ce.locals m := hn
      rw [cL] at hn
      exact hRR D s3.heap.objs.size s6 m H5 I7 qq hn (I3.fpOk (Nat.le_refl _) nC)
    · have ti := T.item (X.blk s3 H3 scope ce fp) rfl rfl rfl hc i [] s5 _ H5 (fun _ _ => False) I5 (stat I5 n5) st5 go
      refine thnF ti fun r s6 ⟨u, hr, h6⟩ => ?_
      subst hr
      refine thnF h6 fun _ s7 ⟨x, H7, I7, r7, y7, st7, n7⟩ => ?_
      have I7' := I7.pinned (stat I7 n7) (T.obj _ _ st7)
      refine thnF (pg.run _ s7 _ H7 x u _ I7' r7 (step x H7 y7)) fun _ s8 ⟨σ8, H8, I8, hw8, q8⟩ => ?_
      refine thnF (pt.run _ s8 σ8 H8 _ I8 q8) fun b s9 ⟨H9, I9, q9⟩ => ?_
      -- the turn's end
      have fin : ∀ {s' : Shared} {H' : Hp}, Inv (X.blk s3 H3 scope ce fp) ([] ++ pinsAt fp s7.heap) σ8 H' s' → Nx H' → ∃ m, m < n ∧ ∃ i H', Inv (X.blk s3 H3 scope ce fp) [] (wipe σ (own.map (·.2))) H' s' ∧ tn i s'.heap ∧ (∀ b ∈ fp, H' b = none) ∧ W i m H' := fun {s' H'} I' nx => by
        obtain ⟨m', hm, w'⟩ := hNx H' nx
        have pin' : ∀ b ∈ fp, ∀ o, s7.heap.get? b = some o → s'.heap.get? b = some o ∧ H' b = none := fun b hb o e =>
          let z := I'.pin (b, o) (List.mem_append_right _ (List.mem_append_right _ (mem_pinsAt hb e)))
          ⟨z.1, z.2.1⟩
        have hl : (wipe σ (own.map (·.2))).length = σ8.length := by rw [← hw8, wipe_length]
        refine ⟨m', hm, i + 1, H', (I'.unpinned (pins := [])).weak hl (fun j v e => ?_), T.keep _ _ _ st7 fun b hb o e => (pin' b hb o e).1, fun b hb => ?_, w'⟩
        · rw [← hw8] at e
          exact (wipe_some e).1
        · obtain ⟨o, e, _⟩ := T.obj _ _ st7 b hb
          exact (pin' b hb o e).2
      cases b with
      | false =>
        simp only [Bool.false_eq_true, if_false] at q9 ⊢
        exact fin I9 q9
      | true =>
        simp only [if_true] at q9 ⊢
        refine thnF (pk.run _ s9 σ8 H9 _ I9 q9) fun z s10 ⟨yk, H10, I10, r10, q10⟩ => ?_
        refine thnF (pe.run _ s10 σ8 H10 _ I10 q10) fun z2 s11 ⟨yv, H11, I11, r11, kvs, k, kb, ek, hkb, hD11, hz11, nx⟩ => ?_
        subst ek
        exact d_dictSetT (X := X.blk s3 H3 scope ce fp) hu I11 hkb hD11 hz11 r10 r11 fun s12 I12 => fin I12 nx
  exact codeAny_compStart_dict loop (T.self X.A 0 _ _ _ st4 loop)
/-- as a value -/
theorem pe_dcT (hu : X.A.units + 2 < cLine) {kx vx tg iter : Expr} {ifs : List Expr} {scope : Scope} {own : List (Str × Nat)} {pos : Pos} {wi : TI} {g : TG} {tt : TT} {tk tv : TE} (hc : X.calm = true) (hN : X.N.Nodup) (hi : PI X tg iter wi) (ok : BlkOk X.N X.env.scope scope own)
    (hg : ∀ (s : Shared) (H : Hp) (C : Addr) (cl : List (Str × Addr)) (fp : List Addr), PG (X.blk s H scope (compEnvC scope cl C X.env) fp) tg g) (ht : ∀ (s : Shared) (H : Hp) (C : Addr) (cl : List (Str × Addr)) (fp : List Addr), PTs (X.blk s H scope (compEnvC scope cl C X.env) fp) ifs tt)
    (hk : ∀ (s : Shared) (H : Hp) (C : Addr) (cl : List (Str × Addr)) (fp : List Addr), PE (X.blk s H scope (compEnvC scope cl C X.env) fp) kx tk)
    (he : ∀ (s : Shared) (H : Hp) (C : Addr) (cl : List (Str × Addr)) (fp : List Addr), PE (X.blk s H scope (compEnvC scope cl C X.env) fp) vx tv) (hs : ∀ x, foldedSetIterable iter X.env x = pure x := by intro _; rfl) :
    PE X (.DictComp kx vx [⟨tg, iter, ifs, 0⟩] scope pos) (tDcT wi g tt tk tv (own.map (·.2))) := by
  refine ⟨fun pins s σ H Q I h => ?_⟩
  rw [arm_eval_DictComp]
  refine dc_coreT hu hc hN I hi ok hg ht hk he hs h fun D C s' m H' I' q hn f => ⟨m, hn, fun h'' sb => ?_⟩
  obtain ⟨f0, f1, f2, f3, f4, f5⟩ := f
  exact ⟨.ref D, H', I'.turned (t' := s'.toks) (fun b o hb e => (sb.2 b hb).trans e) f0 f1 f3 f4 f5, rfl, q⟩
end
end Ts


set_option Elab.async false
set_option linter.all false
set_option maxRecDepth 100000
set_option maxHeartbeats 4000000
/-! A lambda of one set, handed to a def and called there: its captured cells and itself are known objects while the def runs. -/
namespace Ts
open PySem PySem.Spec PyProof.Rows L2 Tm LamX
abbrev pinO (o : Obj) : HO := .frz o (.ext fun _ => True)
def drp (cs : List Addr) (H : Hp) : Hp := fun b => if b ∈ cs then none else H b
def add (cs : List Addr) (H0 H : Hp) : Hp := fun b => if b ∈ cs then H0 b else H b
def pinA (cs : List Addr) (h : Heap) (H : Hp) : Hp := fun b => if b ∈ cs then (h.get? b).map pinO else H b
section
variable {cs : List Addr} {H H0 H' H2 H3 H4 HZ : Hp} {b : Addr} {h h' B : Heap} {P : Program} {w : World} {fs : List Addr}
theorem drp_in (m : b ∈ cs) : drp cs H b = none := if_pos m
theorem drp_out (m : b ∉ cs) : drp cs H b = H b := if_neg m
theorem drp_none (n : H b = none) : drp cs H b = none := by
  unfold drp
  split
  · rfl
  · exact n
theorem add_in (m : b ∈ cs) : add cs H0 H b = H0 b := if_pos m
theorem add_out (m : b ∉ cs) : add cs H0 H b = H b := if_neg m
theorem pin_in {o : Obj} (m : b ∈ cs) (e : h.get? b = some o) : pinA cs h H b = some (pinO o) := by
  unfold pinA
  rw [if_pos m, e]
  rfl
theorem pin_out (m : b ∉ cs) : pinA cs h H b = H b := if_neg m
theorem pin_ok {a : Addr} {o : Obj} (e : h.get? a = some o) : ObjOk P w H h a (pinO o) := ⟨e, trivial, ⟨o, e⟩, fun _ _ p _ => p⟩
theorem nin_pin {c : Addr} (hp : ∀ c ∈ cs, ∃ o, H c = some (pinO o)) {u : HO} (e : H c = some u) (n : ∀ o φ, u ≠ .frz o φ) : c ∉ cs := fun z => by
  obtain ⟨o, q⟩ := hp c z
  rw [q] at e
  exact n _ _ (Option.some.inj e).symm
theorem nin_none {c : Addr} (hp : ∀ c ∈ cs, ∃ o, H c = some (pinO o)) (e : H c = none) : c ∉ cs := fun z => by
  obtain ⟨o, q⟩ := hp c z
  rw [q] at e
  cases e
theorem nin_some {c : Addr} (hn : ∀ c ∈ cs, H c = none) {u : HO} (e : H c = some u) : c ∉ cs := fun z => by
  rw [hn c z] at e
  cases e
theorem hok_drp (x : HOk P w H h) (p : ∀ c ∈ cs, ∃ o, H c = some (pinO o)) : HOk P w (drp cs H) h := fun a o e => by
  have ha : a ∉ cs := fun z => by
    rw [drp_in z] at e
    cases e
  rw [drp_out ha] at e
  exact (x a o e).stay (fun b u _ q => q) (fun b q => by rw [drp_out (nin_pin p q fun _ _ z => by cases z)]; exact q) (fun b xs q => by rw [drp_out (nin_pin p q fun _ _ z => by cases z)]; exact q)
theorem hok_add (x : HOk P w H' h) (hn : ∀ c ∈ cs, H' c = none) (hp : ∀ c ∈ cs, ∃ o, H0 c = some (pinO o) ∧ h.get? c = some o) : HOk P w (add cs H0 H') h := fun a o e => by
  by_cases ha : a ∈ cs
  · obtain ⟨ob, h1, h2⟩ := hp a ha
    rw [add_in ha, h1] at e
    cases e
    exact pin_ok h2
  · rw [add_out ha] at e
    exact (x a o e).stay (fun b u _ q => q) (fun b q => by rw [add_out (nin_some hn q)]; exact q) (fun b xs q => by rw [add_out (nin_some hn q)]; exact q)
theorem hok_pin (x : HOk P w H h) (hn : ∀ c ∈ cs, H c = none) (hp : ∀ c ∈ cs, ∃ o, h.get? c = some o) : HOk P w (pinA cs h H) h := fun a o e => by
  by_cases ha : a ∈ cs
  · obtain ⟨ob, h1⟩ := hp a ha
    rw [pin_in ha h1] at e
    cases e
    exact pin_ok h1
  · rw [pin_out ha] at e
    exact (x a o e).stay (fun b u _ q => q) (fun b q => by rw [pin_out (nin_some hn q)]; exact q) (fun b xs q => by rw [pin_out (nin_some hn q)]; exact q)
/-- out of the call: the pins are taken off -/
theorem un_out (hc : ∀ c ∈ cs, H2 c = none) (he : ∀ b, b ∉ cs → H3 b = H2 b) (hp : ∀ c ∈ cs, ∃ o, H3 c = some (pinO o) ∧ h.get? c = some o) (u : Un fs [] H3 H4 h h') (ok : HOk P w H4 h') : Un fs [] H2 (drp cs H4) h h' := by
  have kp : ∀ b o, b ∈ cs → h.get? b = some o → h'.get? b = some o := fun b o m e => by
    obtain ⟨ob, h1, h2⟩ := hp b m
    rw [e] at h2
    cases h2
    exact (ok b _ (u.frzs _ _ _ h1)).1
  refine ⟨fun b o e n hb hx => ?_, fun b o e n hb hx => ?_, fun b o e n hx => ?_, u.there, fun b xs e => ?_, fun b o x e => ?_, fun b ps e => ?_⟩
  · by_cases m : b ∈ cs
    · exact kp b o m e
    · exact u.keep b o e (by rw [he b m]; exact n) hb hx
  · by_cases m : b ∈ cs
    · exact ⟨o.slots, kp b o m e⟩
    · exact u.slot b o e (by rw [he b m]; exact n) hb hx
  · by_cases m : b ∈ cs
    · exact drp_in m
    · rw [drp_out m]
      exact u.free b o e (by rw [he b m]; exact n) hx
  · have m := nin_some hc e
    rw [drp_out m]
    exact u.tups b xs (by rw [he b m]; exact e)
  · have m := nin_some hc e
    rw [drp_out m]
    exact u.frzs b o x (by rw [he b m]; exact e)
  · have m := nin_some hc e
    rw [drp_out m]
    exact u.tbls b ps (by rw [he b m]; exact e)
theorem ub_out (hc : ∀ c ∈ cs, H2 c = none) (he : ∀ b, b ∉ cs → H3 b = H2 b) (hp : ∀ c ∈ cs, ∃ o, H3 c = some (pinO o) ∧ h.get? c = some o) (u : UB fs H3 H4 h B h') (ok : HOk P w H4 B) : UB fs H2 (drp cs H4) h B h' := by
  have kp : ∀ b o, b ∈ cs → h.get? b = some o → B.get? b = some o := fun b o m e => by
    obtain ⟨ob, h1, h2⟩ := hp b m
    rw [e] at h2
    cases h2
    exact (ok b _ (u.frzs _ _ _ h1)).1
  refine ⟨fun b o e n hb => ?_, u.slot, fun b o e n => ?_, u.there, fun b xs e => ?_, fun b o x e => ?_, fun b ps e => ?_⟩
  · by_cases m : b ∈ cs
    · exact kp b o m e
    · exact u.keep b o e (by rw [he b m]; exact n) hb
  · by_cases m : b ∈ cs
    · exact drp_in m
    · rw [drp_out m]
      exact u.free b o e (by rw [he b m]; exact n)
  · have m := nin_some hc e
    rw [drp_out m]
    exact u.tups b xs (by rw [he b m]; exact e)
  · have m := nin_some hc e
    rw [drp_out m]
    exact u.frzs b o x (by rw [he b m]; exact e)
  · have m := nin_some hc e
    rw [drp_out m]
    exact u.tbls b ps (by rw [he b m]; exact e)
/-- into the lambda's body and out of it -/
theorem un_in (hp : ∀ c ∈ cs, ∃ o, HZ c = some (pinO o)) (u : Un fs [] (drp cs HZ) H' h h') : Un fs [] HZ (add cs HZ H') h h' := by
  refine ⟨fun b o e n hb hx => u.keep b o e (drp_none n) hb hx, fun b o e n hb hx => u.slot b o e (drp_none n) hb hx, fun b o e n hx => ?_, u.there, fun b xs e => ?_, fun b o x e => ?_, fun b ps e => ?_⟩
  · rw [add_out (nin_none hp n)]
    exact u.free b o e (drp_none n) hx
  · have m := nin_pin hp e fun _ _ z => by cases z
    rw [add_out m]
    exact u.tups b xs (by rw [drp_out m]; exact e)
  · by_cases m : b ∈ cs
    · rw [add_in m]
      exact e
    · rw [add_out m]
      exact u.frzs b o x (by rw [drp_out m]; exact e)
  · have m := nin_pin hp e fun _ _ z => by cases z
    rw [add_out m]
    exact u.tbls b ps (by rw [drp_out m]; exact e)
end
/-! ### the lambda's frame -/
/-- its one parameter, its captured names -/
structure LamP (sc scope : Scope) (px : Str) : Prop where
  kind : scope.kind = .function
  co : scope.isCoroutine = false
  gen : scope.isGenerator = false
  par : (scope.names.lookup px = some .local ∧ ∀ y ∈ scope.names, y.2 ≠ .cell) ∨ ∃ rest, scope.names = (px, .cell) :: rest ∧ ∀ y ∈ rest, y.2 ≠ .cell
  own : ∀ y ∈ scope.names, y.2 = .local → y.1 = px
  free : ∀ y ∈ scope.names, y.2 = .free → y.1 ≠ px ∧ sc.names.lookup y.1 = some .cell
def lamPB (sc scope : Scope) (px : Str) : Bool :=
  decide (scope.kind = .function) && !scope.isCoroutine && !scope.isGenerator && ((decide (scope.names.lookup px = some .local) && scope.names.all fun y => !decide (y.2 = .cell)) || (decide (scope.names.head? = some (px, .cell)) && scope.names.tail.all fun y => !decide (y.2 = .cell))) &&
  (scope.names.all fun y => !decide (y.2 = .local) || decide (y.1 = px)) && scope.names.all fun y => !decide (y.2 = .free) || (!decide (y.1 = px) && decide (sc.names.lookup y.1 = some .cell))
theorem lamP_by {sc scope : Scope} {px : Str} (h : lamPB sc scope px = true) : LamP sc scope px := by
  unfold lamPB at h
  simp only [Bool.and_eq_true, Bool.or_eq_true, Bool.not_eq_true', decide_eq_true_eq, decide_eq_false_iff_not, List.all_eq_true] at h
  obtain ⟨⟨⟨⟨⟨h1, h2⟩, h3⟩, h4⟩, h5⟩, h6⟩ := h
  refine ⟨h1, h2, h3, ?_, fun y hy e => (h5 y hy).resolve_left fun z => z e, fun y hy e => (h6 y hy).resolve_left fun z => z e⟩
  rcases h4 with h4 | ⟨h4, h7⟩
  · exact .inl h4
  · refine .inr ⟨scope.names.tail, ?_, h7⟩
    cases hn : scope.names with
    | nil => rw [hn] at h4; cases h4
    | cons a r => rw [hn] at h4; rw [Option.some.inj h4]; rfl
theorem cellsFrom_nocell : ∀ {names : List (Str × NameKind)} {n : Nat} {acc : List (Str × Addr)}, (∀ y ∈ names, y.2 ≠ .cell) → cellsFrom n names acc = acc
  | [], _, _, _ => rfl
  | (x, k) :: r, n, acc, h => by
    unfold cellsFrom
    have hk : (k == NameKind.cell) = false := by
      have z := h (x, k) List.mem_cons_self
      simpa using z
    rw [hk]
    exact cellsFrom_nocell fun y hy => h y (List.mem_cons_of_mem _ hy)
theorem pushCells_nocell : ∀ {names : List (Str × NameKind)} {h : Heap}, (∀ y ∈ names, y.2 ≠ .cell) → pushCells h names = h
  | [], _, _ => rfl
  | (x, k) :: r, hp, h => by
    unfold pushCells
    have hk : (k == NameKind.cell) = false := by
      have z := h (x, k) List.mem_cons_self
      simpa using z
    rw [hk]
    exact pushCells_nocell fun y hy => h y (List.mem_cons_of_mem _ hy)
/-- the frame with its one parameter laid -/
theorem lam_env {M : Model} {A : Around} {E : Value → Shared → Prop} {s : Shared} {sc scope : Scope} {globals : Addr} {cl : List (Str × Addr)} {px : Str} {u : Value} {qual : Str} {func : Option Addr} {code : Value} {builtins : Addr} {Q : Env → Shared → Prop} (L : LamP sc scope px)
    (h : ∀ (cs : List (Str × Addr)) (h₁ : Heap) (m : Str → Option Value) (tk : Nat), h₁.Ns s.heap.objs.size m → (∀ b o, s.heap.get? b = some o → h₁.get? b = some o) →
      ((cs = cl ∧ scope.names.lookup px = some .local ∧ m px = some u) ∨ (cs = (px, s.heap.objs.size + 1) :: cl ∧ scope.names.lookup px = some .cell ∧ h₁.IsCell (s.heap.objs.size + 1) (some u))) → Q (newEnv scope s.heap.objs.size globals cs qual func code none builtins) { s with heap := h₁, toks := tk }) :
    wpAny M A (newFunctionEnv scope globals cl [(px, u)] qual func code none builtins) Q E s := by
  rcases L.par with ⟨hl, hc⟩ | ⟨rest, hn, hc⟩
  · refine wpAny_newFunctionEnv hc (fun y hy => by rw [List.mem_singleton.mp hy]; exact hl) (fun h' hns hsb => h cl h' _ _ hns (fun b o e => hsb.extBut b o (Nat.ne_of_lt (Heap.lt_size e)) (Heap.get?_push_of_some _ e)) (.inl ⟨rfl, hl, ?_⟩)) L.kind
    show List.lookup px [(px, u)] = some u
    rw [List.lookup_cons]
    simp
  · have hlk : scope.names.lookup px = some .cell := by
      rw [hn, List.lookup_cons]
      simp
    simp only [newFunctionEnv, Option.isSome_none, Bool.false_eq_true, if_false]
    refine wpAny_bind (wpAny_alloc ?_)
    refine wpAny_bind (wpAny_layCells _ (fun name kind cells => by cases hkc : kind == NameKind.cell <;> simp [hkc]) _ _ _ _ ?_)
    have e1 : cellsFrom ({ s with heap := s.heap.push { cls := .type "frame", data := .dict #[] } } : Shared).heap.objs.size scope.names cl = (px, s.heap.objs.size + 1) :: cl := by
      rw [hn]
      show cellsFrom (s.heap.push _).objs.size ((px, NameKind.cell) :: rest) cl = _
      rw [Heap.size_push]
      show cellsFrom (s.heap.objs.size + 1 + 1) rest ((px, s.heap.objs.size + 1) :: cl) = _
      exact cellsFrom_nocell hc
    have e2 : pushCells ({ s with heap := s.heap.push { cls := .type "frame", data := .dict #[] } } : Shared).heap scope.names = (s.heap.push { cls := .type "frame", data := .dict #[] }).push { cls := .type "cell", data := .cell none } := by
      rw [hn]
      show pushCells (s.heap.push _) ((px, NameKind.cell) :: rest) = _
      show pushCells ((s.heap.push _).push _) rest = _
      exact pushCells_nocell hc
    rw [e1, e2]
    refine wpAny_bind ?_
    rw [List.forIn_cons]
    have hcell : ((s.heap.push { cls := .type "frame", data := .dict #[] }).push { cls := .type "cell", data := .cell none }).IsCell (s.heap.objs.size + 1) none := ⟨_, by rw [← Heap.size_push s.heap { cls := .type "frame", data := .dict #[] }]; exact Heap.get?_push_size _ rfl, rfl⟩
    refine wpAny_bind (wpAny_bind (wpAny_storeName_cell (c := s.heap.objs.size + 1) L.kind hlk ?_ hcell fun h' hc' hs' => wpAny_pure ?_))
    · show List.lookup px ((px, s.heap.objs.size + 1) :: cl) = _
      rw [List.lookup_cons]
      simp
    dsimp only
    rw [List.forIn_nil]
    refine wpAny_pure (wpAny_pure ?_)
    refine h ((px, s.heap.objs.size + 1) :: cl) h' _ s.toks ((((Heap.Ns.new s.heap (.type "frame")).keeps fun b o e => Heap.get?_push_of_some _ e)).sameBut hs' (Nat.ne_of_lt (Nat.lt_succ_self _))) (fun b o e => ?_) (.inr ⟨rfl, hlk, hc'⟩)
    exact hs'.extBut b o (Nat.ne_of_lt (Nat.lt_succ_of_lt (Heap.lt_size e))) (Heap.get?_push_of_some _ (Heap.get?_push_of_some _ e))
/-! ### the body -/
abbrev lamEn (X : Cx) (scope : Scope) (L f c' : Addr) (cs : List (Str × Addr)) : Env := PySem.W.envX (X.env.qual ++ "<lambda>") scope L f (.ref c') cs
/-- the context of the lambda's body; px: its parameter -/
def lamCy (X : Cx) (A : Around) (outer : List Env) (s : Shared) (H : Hp) (scope : Scope) (px : Str) (f c' : Addr) (cs : List (Str × Addr)) : Cx where
  prog := X.prog
  w := X.w
  K := X.K
  mg := X.mg
  base := X.base
  A := A.deeper (lamEn X scope s.heap.objs.size f c' cs)
  N := px :: X.N
  s_0 := s
  H_0 := H
  env := lamEn X scope s.heap.objs.size f c' cs
  outer := outer
  stack := lamEn X scope s.heap.objs.size f c' cs :: outer
  ex := []
  fn := fun _ => false
  calm := true
  pn := []
  xe := fun _ _ => False
/-- a def (or a lambda) that answers fn of a set that is ok -/
structure PredFn (P : Program) (w : World) (K : PySem.W.Frag) (mg : Str → Option Value) (base : Heap) (k : Nat) (f : Addr) (HV : Hp) (ok : List Nat → Prop) (fn : List Nat → Bool) : Prop where
  isf : ∀ (A : Around) (outer : List Env) (s : Shared) (HZ : Hp), Env0 P w K mg base A outer s HZ → Same HV HZ → PySem.W.FnAt f s.heap
  run : ∀ (A : Around) (outer : List Env) (s : Shared) (HZ : Hp) (Q : VK) (a : Addr) (t : List Nat), Room k A → Env0 P w K mg base A outer s HZ → Same HV HZ → HZ a = some (.tup (tv t)) → ok t → (∀ H2, Same HZ H2 → Q (.bl (fn t)) H2) →
    codeAny (model P w) A (.call (.ref f) ⟨[.ref a], []⟩) (CR CX0 outer P w HZ s Q E0) s
/-- what the body's reading is to answer -/
abbrev LamRead (tb : TE) (σ : L2.St) (H3 : Hp) (ok : List Nat → Prop) (fn : List Nat → Bool) : Prop :=
  ∀ (HZ : Hp) (a : Addr) (t : List Nat) (Q : VK), Same H3 HZ → HZ a = some (.tup (tv t)) → ok t → (∀ H', Same HZ H' → Q (.bl (fn t)) H') → tb (some (.ref a) :: σ) HZ Q
section
variable {X : Cx} {pins : List (Addr × Obj)} {σ : L2.St} {H : Hp} {s : Shared}
theorem lam_pred {cs : List Addr} {scope : Scope} {px : Str} {f c' : Addr} {params : Arguments} {body : Expr} {pm ctv : Value} {k : Nat} {ok : List Nat → Prop} {fn : List Nat → Bool} {tb : TE}
    (I : Inv X pins σ H s) (L : LamP X.env.scope scope px) (hx : px ∉ X.N) (hf : s.heap.get? f = some (PySem.W.kla_obj "<lambda>" (X.env.qual ++ "<lambda>") params body scope (cloFrom X.env.cells scope.names []) pm c' ctv))
    (hco : H c' = some (CodeO c' (X.env.qual ++ "<lambda>"))) (hn : ∀ c ∈ cs, H c = none) (hg : ∀ c ∈ cs, ∃ o, s.heap.get? c = some o)
    (hfc : f ∈ cs ∨ X.base.get? f = some (PySem.W.kla_obj "<lambda>" (X.env.qual ++ "<lambda>") params body scope (cloFrom X.env.cells scope.names []) pm c' ctv))
    (hcl : ∀ y ∈ scope.names, y.2 = .free → ∀ c, X.env.cells.lookup y.1 = some c → c ∈ cs)
    (hbind : ∀ (u : Value) (q : Str) (cl : List (Str × Addr)) (pm cv ctv : Value), bindArgs (PySem.W.kla_fn "<lambda>" q params body scope cl pm cv ctv) ⟨[u], []⟩ = pure [(px, u)])
    (hbody : ∀ (A : Around) (outer : List Env) (s : Shared) (H : Hp) (cs : List (Str × Addr)), Room k (A.deeper (lamEn X scope s.heap.objs.size f c' cs)) → PE (lamCy X A outer s H scope px f c' cs) body tb)
    (hread : LamRead tb σ H ok fn) : PredFn X.prog X.w X.K X.mg X.base (k + 1) f (pinA cs s.heap H) ok fn := by
  have isf0 : ∀ (s1 : Shared) (HZ : Hp) (A : Around) (outer : List Env), Env0 X.prog X.w X.K X.mg X.base A outer s1 HZ → Same (pinA cs s.heap H) HZ → s1.heap.get? f = some (PySem.W.kla_obj "<lambda>" (X.env.qual ++ "<lambda>") params body scope (cloFrom X.env.cells scope.names []) pm c' ctv) := fun s1 HZ A outer e0 hS => by
    rcases hfc with m | e
    · obtain ⟨o, e⟩ := hg f m
      have e1 := hS f _ (pin_in m e)
      rw [hf] at e
      cases e
      exact (e0.hok f _ e1).1
    · exact (e0.bs f _ e).1
  refine ⟨fun A outer s1 HZ e0 hS => ⟨_, _, _, _, isf0 s1 HZ A outer e0 hS⟩, ?_⟩
  intro A outer s1 HZ Q a t hr e0 hS ha ht hq
  have hp : ∀ c ∈ cs, ∃ o, HZ c = some (pinO o) ∧ s1.heap.get? c = some o ∧ s.heap.get? c = some o := fun c m => by
    obtain ⟨o, e⟩ := hg c m
    have e1 := hS c _ (pin_in m e)
    exact ⟨o, e1, (e0.hok c _ e1).1, e⟩
  have hp1 : ∀ c ∈ cs, ∃ o, HZ c = some (pinO o) := fun c m => let ⟨o, e, _⟩ := hp c m; ⟨o, e⟩
  have of1 := isf0 s1 HZ A outer e0 hS
  have sub : Same H (drp cs HZ) := fun b o e => by
    have m := nin_some hn e
    rw [drp_out m]
    exact hS b o (by rw [pin_out m]; exact e)
  have hc1 : HZ c' = some (CodeO c' (X.env.qual ++ "<lambda>")) := hS c' _ (by rw [pin_out (nin_some hn hco)]; exact hco)
  obtain ⟨⟨oc, vs, tt, hoc, hdc, hvc⟩, _, _⟩ := e0.hok c' _ hc1
  have e0d : HOk X.prog X.w (drp cs HZ) s1.heap := hok_drp e0.hok hp1
  refine PySem.W.kla_callFunE hr.depth of1 rfl L.co L.gen rfl ⟨c', oc, vs, tt, rfl, hoc, hdc, hvc⟩ ?_
  rw [hbind]
  refine wpAny_pure (lam_env L fun cells h₁ m tk hns kp hpar => ⟨?_, ?_⟩)
  · have nl : s1.heap.NoLimit := e0.mod.nolimit.keeps fun b o e => (e0.bs b o e).1
    exact nl.keeps kp
  show codeAny _ _ (.expr body (lamEn X scope s1.heap.objs.size f c' cells)) _ _
  -- the frame
  have cm : ∀ {y c}, (cloFrom X.env.cells scope.names []).lookup y = some c → X.env.cells.lookup y = some c ∧ (y, NameKind.free) ∈ scope.names := fun {y c} e => by
    rcases cloFrom_mem (PySem.mem_of_lookup e) with hm | ⟨h1, h2⟩
    · cases hm
    · obtain ⟨c1, hc⟩ := I.ok.has _ (.inl (L.free _ h1 rfl).2)
      have hc : X.env.cells.lookup y = some c1 := hc
      have e2 : c = c1 := by
        rw [h2, hc]
        rfl
      rw [e2]
      exact ⟨hc, h1⟩
  have cc : ∀ {y c}, cells.lookup y = some c → ((cloFrom X.env.cells scope.names []).lookup y = some c ∧ y ≠ px) ∨ (y = px ∧ c = s1.heap.objs.size + 1 ∧ scope.names.lookup px = some .cell) := fun {y c} e => by
    rcases hpar with ⟨rfl, _, _⟩ | ⟨rfl, h2, _⟩
    · exact .inl ⟨e, (L.free _ (cm e).2 rfl).1⟩
    · rw [List.lookup_cons] at e
      by_cases z : y = px
      · subst z
        simp at e
        exact .inr ⟨rfl, e.symm, h2⟩
      · have zb : (y == px) = false := by simpa using z
        rw [zb] at e
        exact .inl ⟨e, z⟩
  have ccm : ∀ {y c}, X.env.cells.lookup y = some c → (y, NameKind.free) ∈ scope.names → cells.lookup y = some c := fun {y c} e hy => by
    have hne := (L.free _ hy rfl).1
    have k1 : (cloFrom X.env.cells scope.names []).lookup y = some c := by
      obtain ⟨c2, h2⟩ := mem_lookup (cloFrom_has (cells := X.env.cells) (acc := []) hy)
      have h3 := (cm h2).1
      rw [e] at h3
      rw [h2, h3]
    rcases hpar with ⟨rfl, _, _⟩ | ⟨rfl, h2, _⟩
    · exact k1
    · rw [List.lookup_cons]
      have zb : (y == px) = false := by simpa using hne
      rw [zb]
      exact k1
  have own1 : ∀ c, c ∈ cs → ∃ o, h₁.get? c = some o ∧ s.heap.get? c = some o := fun c m => by
    obtain ⟨o, _, e1, e2⟩ := hp c m
    exact ⟨o, kp _ _ e1, e2⟩
  have cap : ∀ {y c}, (cloFrom X.env.cells scope.names []).lookup y = some c → c ∈ cs ∧ c < s1.heap.objs.size := fun {y c} e => by
    obtain ⟨h1, h2⟩ := cm e
    have m := hcl _ h2 rfl c h1
    obtain ⟨o, _, e1, _⟩ := hp c m
    exact ⟨m, Heap.lt_size e1⟩
  have noA : ∀ b : Addr, b ∉ (lamCy X A outer s1 (drp cs HZ) scope px f c' cells).ex := fun b z => absurd (show b ∈ ([] : List Addr) from z) (by simp)
  have J : Inv (lamCy X A outer s1 (drp cs HZ) scope px f c' cells) [] (some (.ref a) :: σ) (drp cs HZ) { s1 with heap := h₁, toks := tk } := by
    refine ⟨⟨e0.mod, L.kind, rfl, rfl, Nat.le_refl _, fun y z c e1 e2 => ?_, fun y hy => ?_, fun y c z _ => ?_, fun _ => hr.hd, Around.frames_deeper e0.frames, .inr ⟨rfl, rfl⟩, fun b z => absurd z (noA b), fun b o e => ⟨(e0.bs b o e).1, drp_none (e0.bs b o e).2⟩, e0.bsz, fun b _ _ => noA b,
        fun b z => absurd z (noA b), e0.funs, fun b hb => drp_none (e0.frf b hb)⟩,
      rfl, e0.bare, Un.kept kp, ⟨_, hns, fun i y v e1 e2 e3 => ?_⟩, fun y c e => ?_, e0d.fresh (Nat.le_refl _), fun y c e => ?_, fun q hq => absurd (show q ∈ ([] : List (Addr × Obj)) ++ [] from hq) (by simp), e0d.kept kp, ?_⟩
    · rcases cc e1 with ⟨a1, b1⟩ | ⟨a1, b1, d1⟩ <;> rcases cc e2 with ⟨a2, b2⟩ | ⟨a2, b2, d2⟩
      · exact I.ok.inj y z c (cm a1).1 (cm a2).1
      · have q := (cap a1).2
        rw [b2] at q
        exact absurd q (Nat.not_lt_of_le (Nat.le_succ _))
      · have q := (cap a2).2
        rw [b1] at q
        exact absurd q (Nat.not_lt_of_le (Nat.le_succ _))
      · rw [a1, a2]
    · have hy0 : scope.names.lookup y = some .cell ∨ scope.names.lookup y = some .free := hy
      clear hy
      rcases hy0 with hy | hy
      · rcases hpar with ⟨_, h2, _⟩ | ⟨rfl, h2, _⟩
        · rcases L.par with ⟨_, nc⟩ | ⟨rest, hn', _⟩
          · exact absurd rfl (nc _ (PySem.mem_of_lookup hy))
          · rw [hn', List.lookup_cons] at h2
            simp at h2
        · rcases L.par with ⟨_, nc⟩ | ⟨rest, hn', nc⟩
          · exact absurd rfl (nc _ (PySem.mem_of_lookup hy))
          · have hm := PySem.mem_of_lookup hy
            rw [hn'] at hm
            rcases List.mem_cons.mp hm with e | e
            · have e : y = px := (Prod.mk.inj e).1
              exact ⟨s1.heap.objs.size + 1, by
                show List.lookup y ((px, s1.heap.objs.size + 1) :: _) = _
                rw [e, List.lookup_cons]
                simp⟩
            · exact absurd rfl (nc _ e)
      · have hm := PySem.mem_of_lookup hy
        obtain ⟨c, hc⟩ := I.ok.has _ (.inl (L.free _ hm rfl).2)
        exact ⟨c, ccm hc hm⟩
    · have z : false = true := z
      cases z
    · have e3 : Vis scope y := e3
      cases i with
      | zero =>
        have e1 : some px = some y := e1
        cases e1
        have e2 : some (some (V.ref a)) = some (some v) := e2
        cases e2
        refine ⟨.ref a, rfl, ?_⟩
        rcases hpar with ⟨_, h2, h3⟩ | ⟨h1, h2, h3⟩
        · exact .inl ⟨h2, h3⟩
        · exact .inr ⟨.inl h2, _, by
            show cells.lookup px = _
            rw [h1, List.lookup_cons]
            simp, h3⟩
      | succ i =>
        have e1 : X.N[i]? = some y := e1
        have e2 : σ[i]? = some (some v) := e2
        have ny : y ≠ px := fun z => hx (z ▸ List.mem_of_getElem? e1)
        have hfr : (y, NameKind.free) ∈ scope.names := by
          rcases e3 with k' | k' | k'
          · exact absurd (L.own _ (PySem.mem_of_lookup k') rfl) ny
          · rcases L.par with ⟨_, nc⟩ | ⟨rest, hn', nc⟩
            · exact absurd rfl (nc _ (PySem.mem_of_lookup k'))
            · have hm := PySem.mem_of_lookup k'
              rw [hn'] at hm
              rcases List.mem_cons.mp hm with e | e
              · exact absurd (Prod.mk.inj e).1 ny
              · exact absurd rfl (nc _ e)
          · exact PySem.mem_of_lookup k'
        have hcell := (L.free _ hfr rfl).2
        obtain ⟨m', hn', hl⟩ := I.loc
        obtain ⟨u, ru, q⟩ := hl i y v e1 e2 (.inr (.inl hcell))
        refine ⟨u, ru, .inr ⟨?_, ?_⟩⟩
        · have hk : scope.names.lookup y = some .free := by
            rcases e3 with k' | k' | k'
            · exact absurd (L.own _ (PySem.mem_of_lookup k') rfl) ny
            · rcases L.par with ⟨_, nc⟩ | ⟨rest, hn', nc⟩
              · exact absurd rfl (nc _ (PySem.mem_of_lookup k'))
              · have hm := PySem.mem_of_lookup k'
                rw [hn'] at hm
                rcases List.mem_cons.mp hm with e | e
                · exact absurd (Prod.mk.inj e).1 ny
                · exact absurd rfl (nc _ e)
            · exact k'
          exact .inr hk
        · rcases q with ⟨k1, _⟩ | ⟨_, c, e', z⟩
          · have k1 : X.env.scope.names.lookup y = some .local := k1
            rw [hcell] at k1
            cases k1
          · refine ⟨c, ccm e' hfr, ?_⟩
            obtain ⟨o, z1, z2⟩ := z
            obtain ⟨o', z3, z4⟩ := own1 c (hcl _ hfr rfl c e')
            rw [z1] at z4
            cases z4
            exact ⟨o, z3, z2⟩
    · rcases cc e with ⟨a1, b1⟩ | ⟨a1, b1, d1⟩
      · obtain ⟨v, o, z1, z2⟩ := I.cell y c (cm a1).1
        obtain ⟨o', z3, z4⟩ := own1 c (cap a1).1
        rw [z1] at z4
        cases z4
        exact ⟨v, o, z3, z2⟩
      · rcases hpar with ⟨_, h2, _⟩ | ⟨_, h2, h3⟩
        · rw [h2] at d1
          cases d1
        · rw [b1]
          exact ⟨_, h3⟩
    · rcases cc e with ⟨a1, b1⟩ | ⟨a1, b1, d1⟩
      · exact drp_in (cap a1).1
      · rw [b1]
        exact e0d.fresh (Nat.le_succ _)
    · show (some (V.ref a) :: σ).length = (px :: X.N).length
      rw [List.length_cons, List.length_cons, I.len]
  have hrd := hread (drp cs HZ) a t (fun v H' => Q v (add cs HZ H')) sub (by rw [drp_out (nin_pin hp1 ha fun _ _ z => by cases z)]; exact ha) ht fun H' e => hq _ fun b o q => by
    by_cases m : b ∈ cs
    · rw [add_in m]
      exact q
    · rw [add_out m]
      exact e b o (by rw [drp_out m]; exact q)
  refine PySem.W.kla_codeExpr (wpAny_mono ((hbody A outer s1 (drp cs HZ) cells (hr.deeper _)).run [] _ _ _ _ J hrd) (fun v s' hq' => ?_) fun e s' hq' => False.elim hq')
  obtain ⟨w', H', J', rv, q⟩ := hq'
  refine ⟨w', add cs HZ H', J'.os, J'.bare, un_in hp1 J'.base, hok_add J'.hok (fun c m => ?_) (fun c m => ?_), rv, q⟩
  · obtain ⟨o, _, e1, _⟩ := hp c m
    exact J'.base.free c o e1 (drp_in m) (by simp [lamCy])
  · obtain ⟨o, e, e1, _⟩ := hp c m
    refine ⟨o, e, J'.base.keep c o e1 (drp_in m) (fun z => ?_) (by simp [lamCy])⟩
    have z1 := e0.frf c z
    rw [e] at z1
    cases z1
end
/-- x(e1, e2, lambda px: body) -/
def tCallLam (P : Program) (w : World) (K : PySem.W.Frag) (mg : Str → Option Value) (base : Heap) (sp : Sp) (E : XK) (t1 t2 : TE) (T : List (Addr × Str)) (k : Nat) (tb : TE) : TE := fun σ H Q =>
  t1 σ H fun v1 H1 => t2 σ H1 fun v2 H2 => Tabs T H2 ∧ ∀ H3, ExtN H2 H3 → Tabs T H3 → ∃ (ok : List Nat → Prop) (fn : List Nat → Bool), LamRead tb σ H3 ok fn ∧
    ∀ (f : Addr) (H4 : Hp) (d : Hp → Hp), PredFn P w K mg base k f H4 ok fn → Same H3 H4 → (∀ H5, Same H4 H5 → Same H3 (d H5)) → sp [v1, v2, .ref f] H4 (fun v H5 => Q v (d H5)) (fun cls dd H5 => E cls dd (d H5))
section
variable {X : Cx}
theorem pe_callLam {x px : Str} {c P : Addr} {k kb : Nat} {ps : List Str} {sp : Sp} {E : XK} {e1 e2 : Expr} {t1 t2 tb : TE} {T : List (Addr × Str)} {params : Arguments} {body : Expr} {scope : Scope} {p lpos pos : Pos}
    (F : Fnc X.prog X.w X.K X.mg X.base (L2.CX X.prog X.w) x k ps sp) (hr : Room k X.A) (hx : Passes (L2.CX X.prog X.w) X E) (hg : Gl X x) (h1 : PE X e1 t1) (h2 : PE X e2 t2) (L : LamP X.env.scope scope px) (hpx : px ∉ X.N) (hfn : X.fn = fun _ => true)
    (TB : TabB X.base X.mg c P) (hcode : X.env.code = .ref c) (hmT : (P, X.env.qual ++ "<lambda>") ∈ T) (hu : ∀ p ∈ T, p.1 = P → p.2 = X.env.qual ++ "<lambda>") (hdef : defaultsOf params X.env = ([], []))
    (hbind : ∀ (u : Value) (q : Str) (cl : List (Str × Addr)) (pm cv ctv : Value), bindArgs (PySem.W.kla_fn "<lambda>" q params body scope cl pm cv ctv) ⟨[u], []⟩ = pure [(px, u)])
    (hbody : ∀ (f c' : Addr) (A : Around) (outer : List Env) (s : Shared) (H : Hp) (cs : List (Str × Addr)), Room kb (A.deeper (lamEn X scope s.heap.objs.size f c' cs)) → PE (lamCy X A outer s H scope px f c' cs) body tb)
    (hdb : (x == ("__debug__" : Str)) = false := by decide) (hs1 : starEach [e1, e2, .Lambda params body scope lpos] X.env = (false, eval e1 X.env) :: (false, eval e2 X.env) :: (false, eval (.Lambda params body scope lpos) X.env) :: [] := by rfl)
    (he2 : starEach [e2, .Lambda params body scope lpos] X.env = (false, eval e2 X.env) :: (false, eval (.Lambda params body scope lpos) X.env) :: [] := by rfl) :
    PE X (.Call (.Name x p) [e1, e2, .Lambda params body scope lpos] [] pos) (tCallLam X.prog X.w X.K X.mg X.base sp E t1 t2 T (kb + 1) tb) := by
  obtain ⟨g, fd, G, hm, hk, hb⟩ := F.ex
  refine ⟨fun pins s σ H Q I h => ?_⟩
  refine wpAny_Call_Name_kw (ld_glob I hg hm ?_ hdb)
  refine PySem.W.callWith_K (h₀ := X.base) I.ok.mod.kin hk ?_ (by rw [he2]; exact hs1) (by rw [he2]; rfl)
  rw [hs1]
  show wpAny _ _ (spliced ((false, eval e1 X.env) :: (false, eval e2 X.env) :: (false, eval (.Lambda params body scope lpos) X.env) :: [])) _ _ s
  refine Calls.spliced_cons (thn (h1.run pins s σ H _ I h) fun u1 s1 ⟨v1, H1, I1, r1, q1⟩ => ?_)
  refine Calls.spliced_cons (thn (h2.run pins s1 σ H1 _ I1 q1) fun u2 s2 ⟨v2, H2, I2, r2, q2⟩ => ?_)
  obtain ⟨hT, q3⟩ := q2
  have hfree : ∀ y ∈ scope.names, y.2 = .free → ∃ c, X.env.cells.lookup y.1 = some c := fun y hy e => I2.ok.has _ (.inl (L.free y hy e).2)
  refine Calls.spliced_cons (lam_make2 I2 TB hcode hmT hu hT hdef hfree fun f c' pm' ctv H3 s3 I3 eN T3 hf hHf hfr hco => ?_)
  refine Calls.spliced_nil ⟨I3.kIn, ?_⟩
  obtain ⟨ok, fn, hread, q4⟩ := q3 H3 eN T3
  have cellOk : ∀ (y : Str) (c : Addr), X.env.cells.lookup y = some c → H3 c = none ∧ (∃ o, s3.heap.get? c = some o) ∧ X.base.get? c = none ∧ c ∉ frs X.stack := fun y c e => by
    have hge : X.s_0.heap.objs.size ≤ c := I3.ok.cab y c (by rw [hfn]) e
    refine ⟨I3.freeC y c e, ?_, ?_, fun z => ?_⟩
    · obtain ⟨v, o, ho, _⟩ := I3.cell y c e
      exact ⟨o, ho⟩
    · cases hb0 : X.base.get? c with
      | none => rfl
      | some o =>
        have q := Heap.lt_size (I3.ok.bs c o hb0).1
        exact absurd (Nat.lt_of_lt_of_le q hge) (Nat.lt_irrefl _)
    · rcases List.mem_cons.mp (I3.stkSub _ z) with e' | e'
      · exact I3.cne y c e e'
      · obtain ⟨_, o, ho, _⟩ := I3.ok.funs.mem e'
        exact absurd (Nat.lt_of_lt_of_le (Heap.lt_size ho) hge) (Nat.lt_irrefl _)
  obtain ⟨cs, hcl, hcs, hfc⟩ : ∃ cs : List Addr, (∀ y ∈ scope.names, y.2 = .free → ∀ c, X.env.cells.lookup y.1 = some c → c ∈ cs) ∧ (∀ c ∈ cs, H3 c = none ∧ (∃ o, s3.heap.get? c = some o) ∧ X.base.get? c = none ∧ c ∉ frs X.stack) ∧
      (f ∈ cs ∨ X.base.get? f = some (PySem.W.kla_obj "<lambda>" (X.env.qual ++ "<lambda>") params body scope (cloFrom X.env.cells scope.names []) pm' c' ctv)) := by
    have cl0 : ∀ y ∈ scope.names, ∀ c, X.env.cells.lookup y.1 = some c → c ∈ scope.names.filterMap fun y => X.env.cells.lookup y.1 := fun y hy c e => List.mem_filterMap.mpr ⟨y, hy, e⟩
    have cl1 : ∀ c ∈ scope.names.filterMap fun y => X.env.cells.lookup y.1, H3 c = none ∧ (∃ o, s3.heap.get? c = some o) ∧ X.base.get? c = none ∧ c ∉ frs X.stack := fun c m => by
      obtain ⟨y, _, e⟩ := List.mem_filterMap.mp m
      exact cellOk y.1 c e
    cases hb0 : X.base.get? f with
    | none =>
      refine ⟨f :: scope.names.filterMap fun y => X.env.cells.lookup y.1, fun y hy _ c e => List.mem_cons_of_mem _ (cl0 y hy c e), fun c m => ?_, .inl List.mem_cons_self⟩
      rcases List.mem_cons.mp m with e | m
      · rw [e]
        exact ⟨hHf, ⟨_, hf⟩, hb0, hfr⟩
      · exact cl1 c m
    | some o =>
      refine ⟨scope.names.filterMap fun y => X.env.cells.lookup y.1, fun y hy _ c e => cl0 y hy c e, cl1, .inr ?_⟩
      have q := I3.bk f o hb0
      rw [hf] at q
      rw [← Option.some.inj q]
  have hn : ∀ c ∈ cs, H3 c = none := fun c m => (hcs c m).1
  have hg2 : ∀ c ∈ cs, ∃ o, s3.heap.get? c = some o := fun c m => (hcs c m).2.1
  have hpd := lam_pred (fn := fn) (ok := ok) (tb := tb) (k := kb) I3 L hpx hf hco hn hg2 hfc hcl hbind (fun A outer s H cs hr' => hbody f c' A outer s H cs hr') hread
  have hS : Same H3 (pinA cs s3.heap H3) := fun b o e => by
    rw [pin_out (nin_some hn e)]
    exact e
  have e0 := I3.env0
  have e04 : Env0 X.prog X.w X.K X.mg X.base X.A X.stack s3 (pinA cs s3.heap H3) :=
    ⟨e0.frames, e0.mod, fun b o q => ⟨(e0.bs b o q).1, by
      rw [pin_out (fun z => by
        rw [(hcs b z).2.2.1] at q
        cases q)]
      exact (e0.bs b o q).2⟩, e0.bsz, e0.funs, fun b hb' => by
      rw [pin_out (fun z => (hcs b z).2.2.2 hb')]
      exact e0.frf b hb', hok_pin e0.hok hn hg2, e0.bare⟩
  have hsp := q4 f (pinA cs s3.heap H3) (drp cs) hpd hS fun H5 h5 b o e => by
    rw [drp_out (nin_some hn e)]
    exact h5 b o (hS b o e)
  have r : Vals [v1, v2, .ref f] [u1, u2, .ref f] := .cons r1 (.cons r2 (.cons rfl .nil))
  have hl : [u1, u2, Value.ref f].length = ps.length := by
    rw [← r.length]
    exact G.len _ _ _ _ hsp
  have b := hb s3 [u1, u2, .ref f] I3.kIn (by rw [List.append_nil]; exact hl)
  rw [List.append_nil] at b
  have hp3 : ∀ c ∈ cs, ∃ o, pinA cs s3.heap H3 c = some (pinO o) ∧ s3.heap.get? c = some o := fun c m => by
    obtain ⟨o, e⟩ := hg2 c m
    exact ⟨o, pin_in m e, e⟩
  refine wpAny_call (codeAny_mono (G.run X.A X.stack s3 (pinA cs s3.heap H3) ⟨[u1, u2, .ref f], []⟩ [u1, u2, .ref f] [v1, v2, .ref f] _ _ hr e04 b r hsp) fun r s' hq => ?_)
  cases r with
  | error e =>
    obtain ⟨a, B, H', cls, d, z1, z2, z3, z4, z5, z6, z7, z8⟩ := (show L2.CX X.prog X.w X.stack (pinA cs s3.heap H3) s3 _ e s' from hq)
    exact hx pins σ H3 s3 e s' I3 ⟨a, B, drp cs H', cls, d, z1, z2, hok_drp z3 (fun c m => by
      obtain ⟨o, e1, _⟩ := hp3 c m
      exact ⟨o, z4.frzs _ _ _ e1⟩), ub_out hn (fun b m => pin_out m) hp3 z4 z3, drp_none z5, z6, z7, z8⟩
  | ok fl =>
    cases fl with
    | ret u =>
      obtain ⟨v, H', z1, z2, z3, z4, z5, z6⟩ := (show CE X.stack X.prog X.w (pinA cs s3.heap H3) s3 _ u s' from hq)
      exact I3.after ⟨v, drp cs H', z1, z2, un_out hn (fun b m => pin_out m) hp3 z3 z4, hok_drp z4 (fun c m => by
        obtain ⟨o, e1, _⟩ := hp3 c m
        exact ⟨o, z3.frzs _ _ _ e1⟩), z5, z6⟩
    | next => exact False.elim hq
    | brk => exact False.elim hq
    | cont => exact False.elim hq
end
/-- y(e), where y holds such a def -/
def tPred (P : Program) (w : World) (K : PySem.W.Frag) (mg : Str → Option Value) (base : Heap) (k i : Nat) (te : TE) : TE := fun σ H Q =>
  ∃ (f : Addr) (HV : Hp) (ok : List Nat → Prop) (fn : List Nat → Bool), σ[i]? = some (some (.ref f)) ∧ PredFn P w K mg base k f HV ok fn ∧ Same HV H ∧ te σ H fun x H1 => ∃ (a : Addr) (t : List Nat), x = .ref a ∧ Same HV H1 ∧ H1 a = some (.tup (tv t)) ∧ ok t ∧ ∀ H2, Same H1 H2 → Q (.bl (fn t)) H2
theorem pe_pred {X : Cx} {k i : Nat} {y : Str} {e : Expr} {te : TE} {p1 p2 : Pos} (hN : X.N[i]? = some y) (hv : Vis X.env.scope y) (hr : Room k X.A) (he : PE X e te) (hd : (y == ("__debug__" : Str)) = false := by decide) (hcd : (y == ("__classdict__" : Str)) = false := by decide)
    (hs : starEach [e] X.env = (false, eval e X.env) :: starEach [] X.env := by rfl) : PE X (.Call (.Name y p1) [e] [] p2) (tPred X.prog X.w X.K X.mg X.base k i te) := by
  refine ⟨fun pins s σ H Q I h => ?_⟩
  obtain ⟨f, HV, ok, fn, hf, PF, hS, hq⟩ := h
  refine wpAny_Call_Name_kw (thn ((pe_var (pos := p1) (i := i) hN hv hd hcd).run pins s σ H (fun v H1 => v = .ref f ∧ H1 = H) I ⟨.ref f, hf, rfl, rfl⟩) fun u s1 ⟨v, H1, I1, r1, q1⟩ => ?_)
  obtain ⟨ev, eH⟩ := q1
  subst ev
  rw [eH] at I1
  obtain rfl : u = Value.ref f := r1
  refine PySem.W.callWith_F (PF.isf _ _ s1 H I1.env0 hS) ?_ hs (by rfl)
  rw [hs]
  show wpAny _ _ (spliced ((false, eval e X.env) :: [])) _ _ s1
  refine Calls.spliced_cons (thn (he.run pins s1 σ H _ I1 hq) fun u2 s2 ⟨v2, H2, I2, r2, q2⟩ => ?_)
  obtain ⟨a, t, ex, hS2, ha, ht, hq2⟩ := q2
  subst ex
  obtain rfl : u2 = Value.ref a := r2
  refine Calls.spliced_nil ⟨PF.isf _ _ s2 H2 I2.env0 hS2, ?_⟩
  refine wpAny_call (codeAny_mono (PF.run X.A X.stack s2 H2 Q a t hr I2.env0 hS2 ha ht hq2) fun r s' hq' => ?_)
  cases r with
  | error e => exact (show False from hq').elim
  | ok fl =>
    cases fl with
    | ret u => exact I2.after hq'
    | next => exact False.elim hq'
    | brk => exact False.elim hq'
    | cont => exact False.elim hq'
theorem pe_predK (P : Program) (w : World) (K : PySem.W.Frag) (mg : Str → Option Value) (base : Heap) {X : Cx} {k i : Nat} {y : Str} {e : Expr} {te : TE} {p1 p2 : Pos} (hr : Room k X.A) (he : PE X e te) (hP : X.prog = P := by rfl) (hw : X.w = w := by rfl) (hK : X.K = K := by rfl) (hm : X.mg = mg := by rfl) (hb : X.base = base := by rfl) (hN : X.N[i]? = some y := by rfl) (hv : Vis X.env.scope y := by first | exact Or.inl rfl | exact Or.inr (Or.inl rfl) | exact Or.inr (Or.inr rfl)) (hd : (y == ("__debug__" : Str)) = false := by decide) (hcd : (y == ("__classdict__" : Str)) = false := by decide)
    (hs : starEach [e] X.env = (false, eval e X.env) :: starEach [] X.env := by rfl) : PE X (.Call (.Name y p1) [e] [] p2) (tPred P w K mg base k i te) := by
  subst hP hw hK hm hb
  exact pe_pred hN hv hr he hd hcd hs
end Ts


set_option Elab.async false
set_option linter.all false
set_option maxRecDepth 100000
set_option maxHeartbeats 4000000
namespace Ts
open PySem PySem.Spec PyProof.Rows L2 Tm
theorem asc_int : ∀ {ns ms : List Int}, ns.Pairwise (· < ·) → ms.Pairwise (· < ·) → (∀ x, x ∈ ns ↔ x ∈ ms) → ns = ms
  | [], [], _, _, _ => rfl
  | [], b :: t, _, _, h => absurd ((h b).mpr List.mem_cons_self) (by simp)
  | a :: s, [], _, _, h => absurd ((h a).mp List.mem_cons_self) (by simp)
  | a :: s, b :: t, hs, ht, h => by
    rw [List.pairwise_cons] at hs ht
    have e : a = b := by
      rcases List.mem_cons.mp ((h a).mp List.mem_cons_self) with e | e
      · exact e
      · rcases List.mem_cons.mp ((h b).mpr List.mem_cons_self) with e' | e'
        · exact e'.symm
        · have h1 := ht.1 a e
          have h2 := hs.1 b e'
          omega
    subst e
    rw [asc_int hs.2 ht.2 fun x => ?_]
    constructor
    · intro hx
      rcases List.mem_cons.mp ((h x).mp (List.mem_cons_of_mem _ hx)) with e | e
      · have := hs.1 x hx
        omega
      · exact e
    · intro hx
      rcases List.mem_cons.mp ((h x).mpr (List.mem_cons_of_mem _ hx)) with e | e
      · have := ht.1 x hx
        omega
      · exact e
abbrev cI (c : List Nat) : List Int := c.map fun n : Nat => (n : Int)
theorem cI_tv (c : List Nat) : (cI c).map V.int = tv c := by
  rw [List.map_map]
  rfl
theorem sorted_is {c : List Nat} {ns : List Int} (hc : c.Pairwise (· < ·)) (h1 : ns.Pairwise (· < ·)) (h2 : ∀ k : Int, k ∈ ns ↔ decide (k ∈ cI c) = true) : ns.map V.int = tv c := by
  have e : ns = cI c := asc_int h1 (List.pairwise_map.mpr (hc.imp fun h => by omega)) fun x => by
    rw [h2]
    simp
  rw [e, cI_tv]
section
variable {K : PySem.W.Frag} {H : Hp} {w : World} {Q : VK}
/-- list(s) != sorted(set(s)), s a set of people -/
theorem rd_setNe {X : Cx} {σ : L2.St} {t1 t2 : TE} {b : Addr} {c : List Nat} (hb : H b = some (.tup (tv c))) (hc : c.Pairwise (· < ·)) (hl : c.length ≤ 60) (q : ∀ H', Same H H' → Q (.bl false) H') :
    ∀ l, H l = none → rSetT X.K X.w [.ref b] (upd H l (.lst (tv c))) fun x H2 => rSortedSet X.w [x] H2 fun y H3 => rNeD X.K (.ref l) y H3 Q := by
  intro l hl0
  have e1 : Same H (upd H l (.lst (tv c))) := same_new hl0
  refine ⟨b, cI c, rfl, SqT.of (by rw [cI_tv]; exact e1 _ _ hb), by rw [List.length_map]; exact hl, fun sa cnt hn hcn => ?_⟩
  rw [List.length_map] at hcn
  have e2 := same_new (o := SetO X.w sa (fun j => decide (j ∈ cI c)) cnt) hn
  refine ⟨sa, _, cnt, rfl, upd_same, by omega, fun ns p h1 h2 h3 hp => ?_⟩
  have e3 := same_new (o := .lst (ns.map V.int)) hp
  refine rNe_lst (e3 _ _ (e2 _ _ upd_same)) (by rw [← sorted_is hc h1 h2]; exact upd_same) ?_
  rw [decide_eq_true rfl]
  exact q _ (e1.trans (e2.trans e3))
theorem rd_setEq {X : Cx} {σ : L2.St} {t1 t2 : TE} {b : Addr} {c : List Nat} (hb : H b = some (.tup (tv c))) (hc : c.Pairwise (· < ·)) (hl : c.length ≤ 60) (q : ∀ H', Same H H' → Q (.bl true) H') :
    ∀ l, H l = none → rSetT X.K X.w [.ref b] (upd H l (.lst (tv c))) fun x H2 => rSortedSet X.w [x] H2 fun y H3 => rEqD X.K (.ref l) y H3 Q := by
  intro l hl0
  have e1 : Same H (upd H l (.lst (tv c))) := same_new hl0
  refine ⟨b, cI c, rfl, SqT.of (by rw [cI_tv]; exact e1 _ _ hb), by rw [List.length_map]; exact hl, fun sa cnt hn hcn => ?_⟩
  rw [List.length_map] at hcn
  have e2 := same_new (o := SetO X.w sa (fun j => decide (j ∈ cI c)) cnt) hn
  refine ⟨sa, _, cnt, rfl, upd_same, by omega, fun ns p h1 h2 h3 hp => ?_⟩
  have e3 := same_new (o := .lst (ns.map V.int)) hp
  refine rEq_lst (e3 _ _ (e2 _ _ upd_same)) (by rw [← sorted_is hc h1 h2]; exact upd_same) ?_
  rw [decide_eq_true rfl]
  exact q _ (e1.trans (e2.trans e3))
end
theorem fr_at {w : Web} {i : Nat} {c : List Nat} (h : w[i]? = some c) : c = fr w i := by
  unfold fr
  rw [List.getD_eq_getElem?_getD, h]
  rfl
theorem fr_len {w : Web} (W : WebOk w) {i : Nat} (hi : i < w.length) : (fr w i).length + 1 ≤ w.length := by
  have h := nodup_len (l := i :: fr w i) (D := List.range w.length) (List.nodup_cons.mpr ⟨W.irr i hi, asc_nodup (W.asc i hi)⟩) fun x hx => by
    rw [List.mem_range]
    rcases List.mem_cons.mp hx with e | e
    · rw [e]
      exact hi
    · exact W.lt i hi x e
  rw [List.length_range, List.length_cons] at h
  exact h
theorem not_has {p : Nat} {c : List Nat} (h : p ∉ c) : c.contains p = false := by
  cases e : c.contains p with
  | false => rfl
  | true => exact absurd (List.contains_iff_mem.mp e) h
theorem has {p : Nat} {c : List Nat} (h : p ∈ c) : c.contains p = true := List.contains_iff_mem.mpr h
section
variable {P : Program} {w : World} {K : PySem.W.Frag} {mg : Str → Option Value} {base : Heap}
abbrev psv : List Str := ["web"]
def spNeedWeb : Sp := fun vs H Q _ => ∃ v w, vs = [v] ∧ WebAt H v w ∧ WebOk w ∧ ∀ H', Same H H' → Q .non H'
theorem scNeedWeb : FnScope ["web", "people", "index", "friends", "other"] ["web"] (defScope sNeedWeb) := ⟨rfl, rfl, rfl, by decide +kernel, rfl, by decide +kernel, by decide +kernel⟩
theorem ok_need_web (F : FnD K mg "need_web" sNeedWeb) (B : Bt mg) (hM : ∃ t, mg "MOST_PEOPLE" = some (.int 7 t)) (g_is_list : Fnc P w K mg base CX0 "is_list" 1 ["value", "least", "most"] spIsList) (g_is_in : Fnc P w K mg base CX0 "is_in" 2 ["value", "least", "most"] spIsIn) :
    Fnc P w K mg base CX0 "need_web" 3 ["web"] spNeedWeb := by
  refine fnc0 F scNeedWeb (fun vs H Q E h => ?_) (fun _ _ _ _ _ _ us hl => match us, hl with | [_], _ => rfl) (fun f cdv A outer s H vs Q E hr h => ?_)
  · obtain ⟨v, w, rfl, _⟩ := h
    rfl
  · obtain ⟨v, w, rfl, hw, W, k⟩ := h
    obtain ⟨a, xs, rfl, ha, hp⟩ := hw
    have hlen : xs.length = w.length := paired_len hp
    have hW := W.le
    have hW1 := W.pos
    obtain ⟨tM, hM⟩ := hM
    refine ⟨_, (pss_cons (ps_if (pt_not (pt_val (pe_fn (g_is_list.mono (by decide)) hr (pa_cons (pv 0) (pa_cons pe_int (pa_cons (pe_glob (v := .int 7) (by rfl) hM ⟨tM, rfl⟩) pa_nil)))))) pss_never pss_nil)
      (pss_cons (ps_set (i := 1) scNeedWeb.nd rfl (Or.inr rfl) (pe_callB (r := rLen K) call_len_seq (by rfl) B.len boot_len (pa_cons (pv 0) pa_nil)))
      (pss_cons (ps_for PassesOwn.never rfl (pi_enumT (by rfl) B.enum (pa_cons (pv 0) pa_nil)) (pg_tup rfl (pgs_cons (pg_name (i := 2) scNeedWeb.nd rfl (Or.inr rfl)) (pgs_cons (pg_name (i := 3) scNeedWeb.nd rfl (Or.inl rfl)) pgs_nil))) (pss_cons (ps_if (pw_or (pt_not (pt_val (pe_fn (g_is_list.mono (by decide)) hr (pa_cons (pv 3) (pa_cons pe_int (pa_cons (pe_op op_sub (pv 1) pe_int) pa_nil)))))) (pw_or1 (pt_not (pt_val (pe_callB (r := rAll K) (cr_all rfl) (by rfl) B.all boot_all (pa_cons (pe_lc (wi := iTup K _) (own := [("other", 4)]) (g := gName 4) (tt := tYes) rfl scNeedWeb.nd (pi_tup (pv 3)) (blkOk_by (N := ["web", "people", "index", "friends", "other"]) (sc := (defScope sNeedWeb)) (by decide +kernel)) (fun _ _ _ _ _ => (pg_name (i := 4) scNeedWeb.nd rfl (Or.inl rfl))) (fun _ _ _ _ _ => pts_nil) (fun _ _ _ _ _ => (pe_fn (g_is_in.mono (by decide)) hr (pa_cons (pv 4) (pa_cons pe_int (pa_cons (pe_op op_sub (pv 1) pe_int) pa_nil)))))) pa_nil)))))).pt pss_never pss_nil)
      (pss_one (ps_if (pw_or (pt_cmpR (r := rNeD K) (op_neD hr.units) (pe_callTy (r := rList K) call_list_of (by rfl) B.list boot_list (pa_cons (pv 3) pa_nil)) (pe_callB (cr_sortedSet rfl) (by rfl) B.sorted boot_sorted (pa_cons (pe_callTy (cr_setT rfl) (by rfl) B.set boot_set (pa_cons (pv 3) pa_nil)) pa_nil)) (nomark _)) (pw_or1 (pt_cmpR (r := rIn K false) op_in_seq (pv 2) (pv 3) rfl))).pt pss_never pss_nil))))
      (pss_one (ps_for PassesOwn.never rfl (pi_enumT (by rfl) B.enum (pa_cons (pv 0) pa_nil)) (pg_tup rfl (pgs_cons (pg_name (i := 2) scNeedWeb.nd rfl (Or.inr rfl)) (pgs_cons (pg_name (i := 3) scNeedWeb.nd rfl (Or.inl rfl)) pgs_nil))) (pss_one (ps_if (pt_val (pe_callB (r := rAny K) (cr_any rfl) (by rfl) B.any boot_any (pa_cons (pe_lc (wi := iTup K _) (own := [("other", 4)]) (g := gName 4) (tt := tYes) rfl scNeedWeb.nd (pi_tup (pv 3)) (blkOk_by (N := ["web", "people", "index", "friends", "other"]) (sc := (defScope sNeedWeb)) (by decide +kernel)) (fun _ _ _ _ _ => (pg_name (i := 4) scNeedWeb.nd rfl (Or.inl rfl))) (fun _ _ _ _ _ => pts_nil) (fun _ _ _ _ _ => (pe_cmpR (r := rIn K true) op_notIn_seq (pv 2) (pe_ix (r := rIxT K) ix_tup (pv 0) (pv 4) (fun _ _ => rfl)) rfl))) pa_nil))) pss_never pss_nil))))))), ?_⟩
    refine ⟨_, rfl, a, xs, 1, 7, rfl, ha, by omega, by omega, true, rfl, iteF ?_⟩
    refine ⟨_, rfl, a, xs, rfl, .inr (SqT.of ha), ?_⟩
    refine ⟨_, rfl, a, xs, rfl, SqT.of ha, for_enumT (fun _ σ H' => Same H H' ∧ ∃ u1 u2, σ = [some (.ref a), some (.int xs.length), u1, u2, none]) ⟨Same.refl _, none, none, rfl⟩ (fun i σ H' _ p => SqT.of (p.1 _ _ ha)) (fun i x σ H' T hx p hT => ?_) (fun σ H' p => ?_)⟩
    · obtain ⟨e, u1, u2, rfl⟩ := p
      obtain ⟨c, hc, b, rfl, hb⟩ := paired_at hp hx
      obtain rfl := fr_at hc
      have hi : i < w.length := (List.getElem?_eq_some_iff.mp hc).1
      have fl := fr_len W hi
      have e2 : Same H (upd H' T (.tup [.int (i : Nat), .ref b])) := e.trans (same_new hT)
      have hb2 := e2 _ _ hb
      refine ⟨T, _, rfl, SqT.of upd_same, rfl, _, _, rfl, _, _, rfl, rfl, ?_⟩
      refine ⟨_, rfl, _, rfl, _, _, rfl, rfl, b, tv (fr w i), 0, _, rfl, hb2, by omega, by simp; omega, true, rfl, iteF ?_⟩
      refine rd_allT (R := NI) (l := fr w i) (fun _ => true) (src_ppl (by rfl) hb2) (by omega) ni_up (fun x o H3 ho e3 r Kt kt => ?_) (fun H3 e3 => ?_)
      · obtain rfl : x = nv o := r
        have := W.lt i hi o ho
        exact ⟨rfl, _, rfl, _, rfl, _, _, rfl, rfl, (o : Int), 0, _, rfl, by omega, by omega, kt H3 (Same.refl _)⟩
      · have hall : (fr w i).all (fun _ => true) = true := by simp
        rw [hall]
        refine ⟨true, rfl, iteF ?_⟩
        have hb3 := e3 _ _ hb2
        refine ⟨_, rfl, b, tv (fr w i), rfl, .inr (SqT.of hb3), fun l hl0 => ⟨_, rfl, ?_⟩⟩
        refine rd_setNe (X := (cxOf CX0 P _ K mg base ["web", "people", "index", "friends", "other"] "need_web" (defScope sNeedWeb) f cdv A outer s H E).nox) (σ := []) (t1 := tC .non) (t2 := tC .non) hb3 (W.asc i hi) (by omega) (fun H4 e4 => ?_) l hl0
        refine ⟨false, rfl, iteF ⟨_, rfl, _, rfl, rIn_nat (e4 _ _ hb3) ⟨_, rfl, ?_⟩⟩⟩
        rw [not_has (W.irr i hi)]
        exact iteF ⟨e2.trans (e3.trans e4), _, _, rfl⟩
    · obtain ⟨e, u1, u2, rfl⟩ := p
      have ha1 := e _ _ ha
      refine ⟨_, rfl, a, xs, rfl, SqT.of ha1, for_enumT (fun _ σ H' => Same H H' ∧ ∃ u1 u2, σ = [some (.ref a), some (.int xs.length), u1, u2, none]) ⟨e, _, _, rfl⟩ (fun i σ H' _ p => SqT.of (p.1 _ _ ha)) (fun i x σ H' T hx p hT => ?_) (fun σ H' p => ?_)⟩
      · obtain ⟨e, u1, u2, rfl⟩ := p
        obtain ⟨c, hc, b, rfl, hb⟩ := paired_at hp hx
        obtain rfl := fr_at hc
        have hi : i < w.length := (List.getElem?_eq_some_iff.mp hc).1
        have fl := fr_len W hi
        have e2 : Same H (upd H' T (.tup [.int (i : Nat), .ref b])) := e.trans (same_new hT)
        have hb2 := e2 _ _ hb
        refine ⟨T, _, rfl, SqT.of upd_same, rfl, _, _, rfl, _, _, rfl, rfl, ?_⟩
        refine rd_anyT (R := NI) (l := fr w i) (fun _ => false) (src_ppl (by rfl) hb2) (by omega) ni_up (fun x o H3 ho e3 r Kt kt => ?_) (fun H3 e3 => ?_)
        · obtain rfl : x = nv o := r
          have ho2 := W.lt i hi o ho
          obtain ⟨b2, h1, h2⟩ := web_row hp ho2
          refine ⟨rfl, _, rfl, _, rfl, _, rfl, a, xs, (o : Int), _, rfl, rfl, SqT.of (e3 _ _ (e2 _ _ ha)), atI_nat h1, rNotIn_nat (e3 _ _ (e2 _ _ h2)) ?_⟩
          rw [has (W.sym i o hi ho)]
          exact kt H3 (Same.refl _)
        · have hany : (fr w i).any (fun _ => false) = false := by simp
          rw [hany]
          exact ⟨false, rfl, iteF ⟨e2.trans e3, _, _, rfl⟩⟩
      · obtain ⟨e, u1, u2, rfl⟩ := p
        exact k H' e
def spIsSet : Sp := fun vs H Q _ => ∃ v p w s, vs = [v, p] ∧ WebAt H v w ∧ Ppl H p s ∧ SetOk w.length s ∧ w.length ≤ 7 ∧ ∀ H', Same H H' → Q (.bl true) H'
theorem scIsSet : FnScope ["web", "people", "many", "person"] ["web", "people"] (defScope sIsSet) := ⟨rfl, rfl, rfl, by decide +kernel, rfl, by decide +kernel, by decide +kernel⟩
theorem ok_is_set (F : FnD K mg "is_set" sIsSet) (B : Bt mg) (g_is_list : Fnc P w K mg base CX0 "is_list" 1 ["value", "least", "most"] spIsList) (g_is_in : Fnc P w K mg base CX0 "is_in" 2 ["value", "least", "most"] spIsIn) :
    Fnc P w K mg base CX0 "is_set" 3 ["web", "people"] spIsSet := by
  refine fnc0 F scIsSet (fun vs H Q E h => ?_) (fun _ _ _ _ _ _ us hl => match us, hl with | [_, _], _ => rfl) (fun f cdv A outer s H vs Q E hr h => ?_)
  · obtain ⟨v, p, w, s, rfl, _⟩ := h
    rfl
  · obtain ⟨v, p, w, so, rfl, ⟨a, xs, rfl, ha, hp⟩, ⟨b, rfl, hb⟩, O, hW, k⟩ := h
    have hlen : xs.length = w.length := paired_len hp
    have hsl := SetOk.len O
    refine ⟨_, (pss_cons (ps_set (i := 2) scIsSet.nd rfl (Or.inr rfl) (pe_callB (r := rLen K) call_len_seq (by rfl) B.len boot_len (pa_cons (pv 0) pa_nil)))
      (pss_cons (ps_if (pw_or (pt_not (pt_val (pe_fn (g_is_list.mono (by decide)) hr (pa_cons (pv 1) (pa_cons pe_int (pa_cons (pv 2) pa_nil)))))) (pw_or1 (pt_not (pt_val (pe_callB (r := rAll K) (cr_all rfl) (by rfl) B.all boot_all (pa_cons (pe_lc (wi := iTup K _) (own := [("person", 3)]) (g := gName 3) (tt := tYes) rfl scIsSet.nd (pi_tup (pv 1)) (blkOk_by (N := ["web", "people", "many", "person"]) (sc := (defScope sIsSet)) (by decide +kernel)) (fun _ _ _ _ _ => (pg_name (i := 3) scIsSet.nd rfl (Or.inl rfl))) (fun _ _ _ _ _ => pts_nil) (fun _ _ _ _ _ => (pe_fn (g_is_in.mono (by decide)) hr (pa_cons (pv 3) (pa_cons pe_int (pa_cons (pe_op op_sub (pv 2) pe_int) pa_nil)))))) pa_nil)))))).pt (pss_one (ps_ret pe_bl)) pss_nil)
      (pss_one (ps_ret (pe_cmpR (r := rEqD K) (op_eqD hr.units) (pe_callTy (r := rList K) call_list_of (by rfl) B.list boot_list (pa_cons (pv 1) pa_nil)) (pe_callB (cr_sortedSet rfl) (by rfl) B.sorted boot_sorted (pa_cons (pe_callTy (cr_setT rfl) (by rfl) B.set boot_set (pa_cons (pv 1) pa_nil)) pa_nil)) (nomark _)))))), ?_⟩
    refine ⟨_, rfl, a, xs, rfl, .inr (SqT.of ha), ?_⟩
    refine ⟨_, rfl, _, rfl, b, tv so, 0, _, rfl, hb, by omega, by simp; omega, true, rfl, iteF ?_⟩
    refine rd_allT (R := NI) (l := so) (fun _ => true) (src_ppl (by rfl) hb) (by omega) ni_up (fun x o H3 ho e3 r Kt kt => ?_) (fun H3 e3 => ?_)
    · obtain rfl : x = nv o := r
      have := O.lt o ho
      exact ⟨rfl, _, rfl, _, rfl, _, _, rfl, rfl, (o : Int), 0, _, rfl, by omega, by omega, kt H3 (Same.refl _)⟩
    · have hall : so.all (fun _ => true) = true := by simp
      rw [hall]
      refine ⟨true, rfl, iteF ?_⟩
      have hb3 := e3 _ _ hb
      refine ⟨_, rfl, b, tv so, rfl, .inr (SqT.of hb3), fun l hl0 => ⟨_, rfl, ?_⟩⟩
      exact rd_setEq (X := (cxOf CX0 P _ K mg base ["web", "people", "many", "person"] "is_set" (defScope sIsSet) f cdv A outer s H E).nox) (σ := []) (t1 := tC .non) (t2 := tC .non) hb3 O.asc (by omega) (fun H4 e4 => k _ (e3.trans e4)) l hl0
def spNeedPeople : Sp := fun vs H Q _ => ∃ v p w s, vs = [v, p] ∧ WebAt H v w ∧ Ppl H p s ∧ SetOk w.length s ∧ w.length ≤ 7 ∧ ∀ H', Same H H' → Q .non H'
theorem scNeedPeople : FnScope ["web", "people"] ["web", "people"] (defScope sNeedPeople) := ⟨rfl, rfl, rfl, by decide +kernel, rfl, by decide +kernel, by decide +kernel⟩
theorem ok_need_people (F : FnD K mg "need_people" sNeedPeople) (B : Bt mg) (g_is_set : Fnc P w K mg base CX0 "is_set" 3 ["web", "people"] spIsSet) :
    Fnc P w K mg base CX0 "need_people" 4 ["web", "people"] spNeedPeople := by
  refine fnc0 F scNeedPeople (fun vs H Q E h => ?_) (fun _ _ _ _ _ _ us hl => match us, hl with | [_, _], _ => rfl) (fun f cdv A outer s H vs Q E hr h => ?_)
  · obtain ⟨v, p, w, s, rfl, _⟩ := h
    rfl
  · obtain ⟨v, p, w, so, rfl, hv, hs, O, hW, k⟩ := h
    refine ⟨_, (pss_one (ps_if (pt_not (pt_val (pe_fn (g_is_set.mono (by decide)) hr (pa_cons (pv 0) (pa_cons (pv 1) pa_nil))))) pss_never pss_nil)), ?_⟩
    exact ⟨_, rfl, _, rfl, v, p, w, so, rfl, hv, hs, O, hW, fun H' e => ⟨true, rfl, iteF (k H' e)⟩⟩
def spNeedState : Sp := fun vs H Q _ => ∃ v p w s, vs = [v, p] ∧ WebAt H v w ∧ WebOk w ∧ Ppl H p s ∧ SetOk w.length s ∧ ∀ H', Same H H' → Q .non H'
theorem scNeedState : FnScope ["web", "standing"] ["web", "standing"] (defScope sNeedState) := ⟨rfl, rfl, rfl, by decide +kernel, rfl, by decide +kernel, by decide +kernel⟩
theorem ok_need_state (F : FnD K mg "need_state" sNeedState) (B : Bt mg) (g_need_web : Fnc P w K mg base CX0 "need_web" 3 ["web"] spNeedWeb) (g_is_set : Fnc P w K mg base CX0 "is_set" 3 ["web", "people"] spIsSet) :
    Fnc P w K mg base CX0 "need_state" 4 ["web", "standing"] spNeedState := by
  refine fnc0 F scNeedState (fun vs H Q E h => ?_) (fun _ _ _ _ _ _ us hl => match us, hl with | [_, _], _ => rfl) (fun f cdv A outer s H vs Q E hr h => ?_)
  · obtain ⟨v, p, w, s, rfl, _⟩ := h
    rfl
  · obtain ⟨v, p, w, so, rfl, hv, W, hs, O, k⟩ := h
    refine ⟨_, (pss_cons (ps_expr (pe_fn (g_need_web.mono (by decide)) hr (pa_cons (pv 0) pa_nil)))
      (pss_one (ps_if (pt_not (pt_val (pe_fn (g_is_set.mono (by decide)) hr (pa_cons (pv 0) (pa_cons (pv 1) pa_nil))))) pss_never pss_nil))), ?_⟩
    exact ⟨_, rfl, v, w, rfl, hv, W, fun H1 e1 => ⟨_, rfl, _, rfl, v, p, w, so, rfl, hv.mono (tup_of e1), hs.mono (tup_of e1), O, W.le, fun H' e => ⟨true, rfl, iteF (k H' (e1.trans e))⟩⟩⟩
def spNeedTwo : Sp := fun vs H Q _ => ∃ v p q w s g, vs = [v, p, q] ∧ WebAt H v w ∧ WebOk w ∧ Ppl H p s ∧ SetOk w.length s ∧ Ppl H q g ∧ SetOk w.length g ∧ ∀ H', Same H H' → Q .non H'
theorem scNeedTwo : FnScope ["web", "standing", "goal"] ["web", "standing", "goal"] (defScope sNeedTwo) := ⟨rfl, rfl, rfl, by decide +kernel, rfl, by decide +kernel, by decide +kernel⟩
theorem ok_need_two (F : FnD K mg "need_two" sNeedTwo) (B : Bt mg) (g_need_state : Fnc P w K mg base CX0 "need_state" 4 ["web", "standing"] spNeedState) (g_is_set : Fnc P w K mg base CX0 "is_set" 3 ["web", "people"] spIsSet) :
    Fnc P w K mg base CX0 "need_two" 5 ["web", "standing", "goal"] spNeedTwo := by
  refine fnc0 F scNeedTwo (fun vs H Q E h => ?_) (fun _ _ _ _ _ _ us hl => match us, hl with | [_, _, _], _ => rfl) (fun f cdv A outer s H vs Q E hr h => ?_)
  · obtain ⟨v, p, q, w, s, g, rfl, _⟩ := h
    rfl
  · obtain ⟨v, p, q, w, so, go, rfl, hv, W, hs, O, hg, G, k⟩ := h
    refine ⟨_, (pss_cons (ps_expr (pe_fn (g_need_state.mono (by decide)) hr (pa_cons (pv 0) (pa_cons (pv 1) pa_nil))))
      (pss_one (ps_if (pt_not (pt_val (pe_fn (g_is_set.mono (by decide)) hr (pa_cons (pv 0) (pa_cons (pv 2) pa_nil))))) pss_never pss_nil))), ?_⟩
    exact ⟨_, rfl, _, rfl, v, p, w, so, rfl, hv, W, hs, O, fun H1 e1 => ⟨_, rfl, _, rfl, v, q, w, go, rfl, hv.mono (tup_of e1), hg.mono (tup_of e1), G, W.le, fun H' e => ⟨true, rfl, iteF (k H' (e1.trans e))⟩⟩⟩
def spNeedPerson : Sp := fun vs H Q _ => ∃ v w p, vs = [v, nv p] ∧ WebAt H v w ∧ p < w.length ∧ ∀ H', Same H H' → Q .non H'
theorem scNeedPerson : FnScope ["web", "person"] ["web", "person"] (defScope sNeedPerson) := ⟨rfl, rfl, rfl, by decide +kernel, rfl, by decide +kernel, by decide +kernel⟩
theorem ok_need_person (F : FnD K mg "need_person" sNeedPerson) (B : Bt mg) (g_is_in : Fnc P w K mg base CX0 "is_in" 2 ["value", "least", "most"] spIsIn) :
    Fnc P w K mg base CX0 "need_person" 3 ["web", "person"] spNeedPerson := by
  refine fnc0 F scNeedPerson (fun vs H Q E h => ?_) (fun _ _ _ _ _ _ us hl => match us, hl with | [_, _], _ => rfl) (fun f cdv A outer s H vs Q E hr h => ?_)
  · obtain ⟨v, w, p, rfl, _⟩ := h
    rfl
  · obtain ⟨v, w, p, rfl, ⟨a, xs, rfl, ha, hx⟩, hp, k⟩ := h
    have hlen : xs.length = w.length := paired_len hx
    refine ⟨_, (pss_one (ps_if (pt_not (pt_val (pe_fn (g_is_in.mono (by decide)) hr (pa_cons (pv 1) (pa_cons pe_int (pa_cons (pe_op op_sub (pe_callB (r := rLen K) call_len_seq (by rfl) B.len boot_len (pa_cons (pv 0) pa_nil)) pe_int) pa_nil)))))) pss_never pss_nil)), ?_⟩
    exact ⟨_, rfl, _, rfl, a, xs, rfl, .inr (SqT.of ha), _, _, rfl, rfl, (p : Int), 0, _, rfl, by omega, by omega, true, rfl, iteF (k H (Same.refl _))⟩
def spTallerIn : Sp := fun vs H Q _ => ∃ v w p, vs = [v, nv p] ∧ WebAt H v w ∧ WebOk w ∧ p < w.length ∧ ∀ x H', Same H H' → Ppl H' x (tallerIn w p) → Q x H'
theorem scTallerIn : FnScope ["web", "person", "other"] ["web", "person"] (defScope sTallerIn) := ⟨rfl, rfl, rfl, by decide +kernel, rfl, by decide +kernel, by decide +kernel⟩
theorem ok_taller_in (F : FnD K mg "taller_in" sTallerIn) (B : Bt mg) :
    Fnc P w K mg base CX0 "taller_in" 1 ["web", "person"] spTallerIn := by
  refine fnc0 F scTallerIn (fun vs H Q E h => ?_) (fun _ _ _ _ _ _ us hl => match us, hl with | [_, _], _ => rfl) (fun f cdv A outer s H vs Q E hr h => ?_)
  · obtain ⟨v, w, p, rfl, _⟩ := h
    rfl
  · obtain ⟨v, w, p, rfl, hv, W, hp, k⟩ := h
    have fl := fr_len W hp
    have hW := W.le
    refine ⟨_, (pss_one (ps_ret (pe_callTy (r := rTuple K) call_tuple_of (by rfl) B.tuple boot_tuple (pa_cons (pe_lc (wi := iTup K _) (own := [("other", 2)]) (g := gName 2) (tt := _) rfl scTallerIn.nd (pi_tup (pe_ix (r := rIxT K) ix_tup (pv 0) (pv 1) (fun _ _ => rfl))) (blkOk_by (N := ["web", "person", "other"]) (sc := (defScope sTallerIn)) (by decide +kernel)) (fun _ _ _ _ _ => (pg_name (i := 2) scTallerIn.nd rfl (Or.inl rfl))) (fun _ _ _ _ _ => pts_one (pt_cmpR op_gt (pv 2) (pv 1) (nomark _))) (fun _ _ _ _ _ => (pv 2))) pa_nil)))), ?_⟩
    refine un_ret (un_cb (un_cons (rd_lcT (R := NI) (S := NI) (l := fr w p) (fun o => decide (p < o)) (fun o => o) (src_row (by rfl) (by rfl) hv hp) (by omega) ni_up ni_up (fun x o H3 N Kt ho e3 r kn ky => ?_) (fun D ys H2 e2 hD hys => ?_))))
    · obtain rfl : x = nv o := r
      refine ⟨rfl, _, rfl, _, rfl, _, _, rfl, rfl, ?_⟩
      refine ⟨_, rfl, ?_⟩
      by_cases h : p < o
      · have h2 : decide ((p : Int) < (o : Int)) = true := decide_eq_true (by omega)
        show if decide ((o : Int) > (p : Int)) = true then _ else _
        rw [show decide ((o : Int) > (p : Int)) = true from h2]
        exact iteT ⟨_, rfl, ky (decide_eq_true h) _ _ (Same.refl _) rfl⟩
      · have h2 : decide ((p : Int) < (o : Int)) = false := decide_eq_false (by omega)
        show if decide ((o : Int) > (p : Int)) = true then _ else _
        rw [show decide ((o : Int) > (p : Int)) = false from h2]
        exact iteF (kn (decide_eq_false h) _ (Same.refl _))
    · have e : ys = tv (tallerIn w p) := by
        have q := paired_eq nv hys
        rw [q, List.map_map]
        rfl
      subst e
      refine ⟨D, _, rfl, .inl ⟨SqL.of hD, fun l hl => ?_⟩⟩
      exact k _ _ (e2.trans (same_new hl)) ⟨l, rfl, upd_same⟩
end
end Ts



set_option Elab.async false
set_option linter.all false
set_option maxRecDepth 100000
set_option maxHeartbeats 4000000
namespace Ts
open PySem PySem.Spec PyProof.Rows L2 Tm
theorem tv_app (l : List Nat) (c : Nat) : tv (l ++ [c]) = tv l ++ [nv c] := List.map_append ..
section
variable {P : Program} {w : World} {K : PySem.W.Frag} {mg : Str → Option Value} {base : Heap}
def spTaller : Sp := spTallerIn
theorem scTaller : FnScope ["web", "person"] ["web", "person"] (defScope sTaller) := ⟨rfl, rfl, rfl, by decide +kernel, rfl, by decide +kernel, by decide +kernel⟩
theorem ok_taller (F : FnD K mg "taller" sTaller) (B : Bt mg) (g_need_web : Fnc P w K mg base CX0 "need_web" 3 ["web"] spNeedWeb) (g_need_person : Fnc P w K mg base CX0 "need_person" 3 ["web", "person"] spNeedPerson) (g_taller_in : Fnc P w K mg base CX0 "taller_in" 1 ["web", "person"] spTallerIn) :
    Fnc P w K mg base CX0 "taller" 4 ["web", "person"] spTaller := by
  refine fnc0 F scTaller (fun vs H Q E h => ?_) (fun _ _ _ _ _ _ us hl => match us, hl with | [_, _], _ => rfl) (fun f cdv A outer s H vs Q E hr h => ?_)
  · obtain ⟨v, w, p, rfl, _⟩ := h
    rfl
  · obtain ⟨v, w, p, rfl, hv, W, hp, k⟩ := h
    refine ⟨_, (pss_cons (ps_expr (pe_fn (g_need_web.mono (by decide)) hr (pa_cons (pv 0) pa_nil)))
      (pss_cons (ps_expr (pe_fn (g_need_person.mono (by decide)) hr (pa_cons (pv 0) (pa_cons (pv 1) pa_nil))))
      (pss_one (ps_ret (pe_fn (g_taller_in.mono (by decide)) hr (pa_cons (pv 0) (pa_cons (pv 1) pa_nil))))))), ?_⟩
    exact ⟨_, rfl, v, w, rfl, hv, W, fun H1 e1 => ⟨_, rfl, _, rfl, v, w, p, rfl, hv.mono (tup_of e1), hp, fun H2 e2 => ⟨_, rfl, _, rfl, v, w, p, rfl, hv.mono (tup_of (e1.trans e2)), W, hp, fun x H' e3 hx => k x H' (e1.trans (e2.trans e3)) hx⟩⟩⟩
def spPeaksIn : Sp := fun vs H Q _ => ∃ v p w s, vs = [v, p] ∧ WebAt H v w ∧ WebOk w ∧ Ppl H p s ∧ SetOk w.length s ∧ ∀ x H', Same H H' → Ppl H' x (peaksIn w s) → Q x H'
theorem scPeaksIn : FnScope ["web", "standing", "found", "person", "other"] ["web", "standing"] (defScope sPeaksIn) := ⟨rfl, rfl, rfl, by decide +kernel, rfl, by decide +kernel, by decide +kernel⟩
theorem ok_peaks_in (F : FnD K mg "peaks_in" sPeaksIn) (B : Bt mg) :
    Fnc P w K mg base CX0 "peaks_in" 1 ["web", "standing"] spPeaksIn := by
  refine fnc0 F scPeaksIn (fun vs H Q E h => ?_) (fun _ _ _ _ _ _ us hl => match us, hl with | [_, _], _ => rfl) (fun f cdv A outer s H vs Q E hr h => ?_)
  · obtain ⟨v, p, w, s, rfl, _⟩ := h
    rfl
  · obtain ⟨v, p, w, so, rfl, hv, W, ⟨b, rfl, hb⟩, O, k⟩ := h
    have hsl := SetOk.len O
    have hW := W.le
    refine ⟨_, (pss_cons (ps_set (i := 2) scPeaksIn.nd rfl (Or.inl rfl) (pe_lst pa_nil))
      (pss_cons (ps_for PassesOwn.never rfl (pi_tup (pv 1)) (pg_name (i := 3) scPeaksIn.nd rfl (Or.inr rfl)) (pss_one (ps_if (pt_not (pt_val (pe_callB (r := rAny K) (cr_any rfl) (by rfl) B.any boot_any (pa_cons (pe_lc (wi := iTup K _) (own := [("other", 4)]) (g := gName 4) (tt := tYes) rfl scPeaksIn.nd (pi_tup (pe_ix (r := rIxT K) ix_tup (pv 0) (pv 3) (fun _ _ => rfl))) (blkOk_by (N := ["web", "standing", "found", "person", "other"]) (sc := (defScope sPeaksIn)) (by decide +kernel)) (fun _ _ _ _ _ => (pg_name (i := 4) scPeaksIn.nd rfl (Or.inl rfl))) (fun _ _ _ _ _ => pts_nil) (fun _ _ _ _ _ => (pe_and (pe_cmpR op_gt (pv 4) (pv 3) (nomark _)) (pe_one (pe_cmpR (r := rIn K false) op_in_seq (pv 4) (pv 1) rfl))))) pa_nil)))) (pss_one (ps_expr (pe_bm PySem.F.plainAttrs_list PySem.F.slot_list_append PySem.F.type_list_append mt_append (pv 2) (pa_cons (pv 3) pa_nil)))) pss_nil)))
      (pss_one (ps_ret (pe_callTy (r := rTuple K) call_tuple_of (by rfl) B.tuple boot_tuple (pa_cons (pv 2) pa_nil)))))), ?_⟩
    refine ⟨by decide, fun D hD => ?_⟩
    have e0 := same_new (o := .lst []) hD
    refine ⟨_, rfl, b, rfl, ⟨_, SqT.of (e0 _ _ hb)⟩, for_tup (xs := tv so) (fun i σ H' => Same H H' ∧ ∃ u, σ = [some v, some (.ref b), some (.ref D), u, none] ∧ H' D = some (.lst (tv ((so.take i).filter (fun p => !((fr w p).any fun o => decide (p < o) && so.contains o)))))) ⟨e0, none, rfl, upd_same⟩ (fun i σ H' _ p => SqT.of (p.1 _ _ hb)) (fun i x σ H' hx p => ?_) (fun σ H' p => ?_)⟩
    · obtain ⟨e, u, rfl, hD1⟩ := p
      obtain ⟨c, hc, rfl⟩ := tv_get hx
      have hcl := O.lt c (List.mem_of_getElem? hc)
      have fl := fr_len W hcl
      have hle := flt_len so i (fun p => !((fr w p).any fun o => decide (p < o) && so.contains o))
      refine rd_anyT (R := NI) (l := fr w c) (fun o => decide (c < o) && so.contains o) (src_row (by rfl) (by rfl) (hv.mono (tup_of e)) hcl) (by omega) ni_up (fun x o H3 ho e3 r Kt kt => ?_) (fun H3 e3 => ?_)
      · obtain rfl : x = nv o := r
        refine ⟨rfl, _, rfl, _, rfl, _, _, rfl, rfl, _, rfl, br (c := decide (c < o)) (by rw [decide_eq_decide]; omega) (fun h => ?_) (fun h => ?_)⟩
        · refine ⟨_, rfl, _, rfl, rIn_nat (e3 _ _ (e _ _ hb)) ?_⟩
          have := kt H3 (Same.refl _)
          rw [h, Bool.true_and] at this
          exact this
        · have := kt H3 (Same.refl _)
          rw [h, Bool.false_and] at this
          exact this
      · refine ⟨_, rfl, br (c := (fun p => !((fr w p).any fun o => decide (p < o) && so.contains o)) c) rfl (fun hp => ?_) (fun hp => ?_)⟩
        · refine ⟨_, rfl, .inl ⟨rfl, _, SqL.of (e3 _ _ hD1)⟩, _, rfl, D, _, _, rfl, rfl, e3 _ _ hD1, by rw [List.length_map, sizeLine_eq]; omega, ?_⟩
          refine ⟨fun b o q => ?_, _, rfl, ?_⟩
          · rw [upd_ne (ne_of_none q hD)]
            exact e3 _ _ (e _ _ q)
          · rw [flt_pos hc hp, tv_app]
            exact upd_same
        · refine ⟨e.trans e3, _, rfl, ?_⟩
          rw [flt_neg hc hp]
          exact e3 _ _ hD1
    · obtain ⟨e, u, rfl, hD1⟩ := p
      rw [List.length_map, List.take_length] at hD1
      exact ⟨_, rfl, D, _, rfl, .inl ⟨SqL.of hD1, fun l hl => k _ _ (e.trans (same_new hl)) ⟨l, rfl, upd_same⟩⟩⟩
def spPeaks : Sp := spPeaksIn
theorem scPeaks : FnScope ["web", "standing"] ["web", "standing"] (defScope sPeaks) := ⟨rfl, rfl, rfl, by decide +kernel, rfl, by decide +kernel, by decide +kernel⟩
theorem ok_peaks (F : FnD K mg "peaks" sPeaks) (B : Bt mg) (g_need_state : Fnc P w K mg base CX0 "need_state" 4 ["web", "standing"] spNeedState) (g_peaks_in : Fnc P w K mg base CX0 "peaks_in" 1 ["web", "standing"] spPeaksIn) :
    Fnc P w K mg base CX0 "peaks" 5 ["web", "standing"] spPeaks := by
  refine fnc0 F scPeaks (fun vs H Q E h => ?_) (fun _ _ _ _ _ _ us hl => match us, hl with | [_, _], _ => rfl) (fun f cdv A outer s H vs Q E hr h => ?_)
  · obtain ⟨v, p, w, s, rfl, _⟩ := h
    rfl
  · obtain ⟨v, p, w, so, rfl, hv, W, hs, O, k⟩ := h
    refine ⟨_, (pss_cons (ps_expr (pe_fn (g_need_state.mono (by decide)) hr (pa_cons (pv 0) (pa_cons (pv 1) pa_nil))))
      (pss_one (ps_ret (pe_fn (g_peaks_in.mono (by decide)) hr (pa_cons (pv 0) (pa_cons (pv 1) pa_nil)))))), ?_⟩
    exact ⟨_, rfl, _, rfl, v, p, w, so, rfl, hv, W, hs, O, fun H1 e1 => ⟨_, rfl, _, rfl, v, p, w, so, rfl, hv.mono (tup_of e1), W, hs.mono (tup_of e1), O, fun x H' e2 hx => k x H' (e1.trans e2) hx⟩⟩
def spEverybody : Sp := fun vs H Q _ => ∃ v w, vs = [v] ∧ WebAt H v w ∧ WebOk w ∧ ∀ x H', Same H H' → Ppl H' x (List.range w.length) → Q x H'
theorem scEverybody : FnScope ["web"] ["web"] (defScope sEverybody) := ⟨rfl, rfl, rfl, by decide +kernel, rfl, by decide +kernel, by decide +kernel⟩
theorem ok_everybody (F : FnD K mg "everybody" sEverybody) (B : Bt mg) (g_need_web : Fnc P w K mg base CX0 "need_web" 3 ["web"] spNeedWeb) :
    Fnc P w K mg base CX0 "everybody" 4 ["web"] spEverybody := by
  refine fnc0 F scEverybody (fun vs H Q E h => ?_) (fun _ _ _ _ _ _ us hl => match us, hl with | [_], _ => rfl) (fun f cdv A outer s H vs Q E hr h => ?_)
  · obtain ⟨v, w, rfl, _⟩ := h
    rfl
  · obtain ⟨v, w, rfl, hv, W, k⟩ := h
    have hW := W.le
    refine ⟨_, (pss_cons (ps_expr (pe_fn (g_need_web.mono (by decide)) hr (pa_cons (pv 0) pa_nil)))
      (pss_one (ps_ret (pe_tupRg rfl (by rfl) B.tuple (prg_1 (by rfl) B.range (pe_callB call_len_seq (by rfl) B.len boot_len (pa_cons (pv 0) pa_nil))))))), ?_⟩
    refine ⟨_, rfl, v, w, rfl, hv, W, fun H1 e1 => ?_⟩
    obtain ⟨a, xs, rfl, ha, hp⟩ := hv.mono (tup_of e1)
    have hlen : xs.length = w.length := paired_len hp
    refine ⟨_, rfl, a, xs, rfl, .inr (SqT.of ha), _, rfl, RgOk.of_le (by omega) (by omega) (by omega) (by omega), fun q hq => k _ _ (e1.trans (same_new hq)) ⟨q, rfl, ?_⟩⟩
    rw [upd_same]
    congr 2
    unfold rgV
    rw [hlen]
    show ((List.range ((w.length : Int) - 0).toNat).map fun i => V.int (0 + (i : Nat))) = _
    rw [show ((w.length : Int) - 0).toNat = w.length from by omega]
    exact List.map_congr_left fun i _ => by
      show V.int (0 + (i : Int)) = V.int (i : Int)
      rw [Int.zero_add]
def spApartIn : Sp := fun vs H Q _ => ∃ v p w t, vs = [v, p] ∧ WebAt H v w ∧ Ppl H p t ∧ (∀ x ∈ t, x < w.length) ∧ t.length ≤ 100 ∧ ∀ H', Same H H' → Q (.bl (apart w t)) H'
theorem scApartIn : FnScope ["web", "people", "one", "other"] ["web", "people"] (defScope sApartIn) := ⟨rfl, rfl, rfl, by decide +kernel, rfl, by decide +kernel, by decide +kernel⟩
theorem ok_apart_in (F : FnD K mg "apart_in" sApartIn) (B : Bt mg) :
    Fnc P w K mg base CX0 "apart_in" 1 ["web", "people"] spApartIn := by
  refine fnc0 F scApartIn (fun vs H Q E h => ?_) (fun _ _ _ _ _ _ us hl => match us, hl with | [_, _], _ => rfl) (fun f cdv A outer s H vs Q E hr h => ?_)
  · obtain ⟨v, p, w, t, rfl, _⟩ := h
    rfl
  · obtain ⟨v, p, w, so, rfl, hv, ⟨b, rfl, hb⟩, O, hl, k⟩ := h
    refine ⟨_, (pss_one (ps_ret (pe_not (pe_callB (r := rAny K) (cr_any rfl) (by rfl) B.any boot_any (pa_cons (pe_lc2 (wi := iTup K _) (wi1 := iTup K _) (own := [("one", 2), ("other", 3)]) (vs1 := [3]) (g := gName 2) (tt := tYes) (g1 := gName 3) (tt1 := tYes) rfl scApartIn.nd (pi_tup (pv 1)) (blkOk_by (N := ["web", "people", "one", "other"]) (sc := (defScope sApartIn)) (by decide +kernel)) (by decide) (fun _ _ _ _ _ => (pg_name (i := 2) scApartIn.nd rfl (Or.inl rfl))) (fun _ _ _ _ _ => pts_nil) (fun _ _ _ _ _ => (pi_tup (pv 1))) (fun _ _ _ _ _ => (pg_name (i := 3) scApartIn.nd rfl (Or.inl rfl))) (fun _ _ _ _ _ => pts_nil) (fun _ _ _ _ _ => (pe_cmpR (r := rIn K false) op_in_seq (pv 3) (pe_ix (r := rIxT K) ix_tup (pv 0) (pv 2) (fun _ _ => rfl)) rfl))) pa_nil))))), ?_⟩
    refine rd_any2T (a := b) (l := so) (fun one other => (fr w one).contains other) rfl hb hl (fun _ => rfl) (fun _ _ => rfl) (fun _ => rfl) (fun one other H2 h1 h2 e2 Kt kt => ?_) (fun H2 e2 => ⟨_, rfl, k H2 e2⟩)
    obtain ⟨a, xs, rfl, ha, hx⟩ := hv.mono (tup_of e2)
    obtain ⟨b2, h3, h4⟩ := web_row hx (O one h1)
    exact ⟨_, rfl, _, rfl, _, rfl, a, xs, (one : Int), _, rfl, rfl, SqT.of ha, atI_nat h3, rIn_nat h4 (kt H2 (Same.refl _))⟩
end
end Ts



set_option Elab.async false
set_option linter.all false
set_option maxRecDepth 100000
set_option maxHeartbeats 4000000
namespace Ts
open PySem PySem.Spec PyProof.Rows L2 Tm
section
variable {P : Program} {w : World} {K : PySem.W.Frag} {mg : Str → Option Value} {base : Heap}
def spChoices : Sp := fun vs H Q _ => ∃ p s, vs = [p] ∧ Ppl H p s ∧ s.length ≤ 7 ∧ ∀ x H', Same H H' → LstT H' x (choices s) → Q x H'
theorem scChoices : FnScope ["people", "found", "person", "row"] ["people"] (defScope sChoices) := ⟨rfl, rfl, rfl, by decide +kernel, rfl, by decide +kernel, by decide +kernel⟩
theorem ok_choices (F : FnD K mg "choices" sChoices) (B : Bt mg) :
    Fnc P w K mg base CX0 "choices" 1 ["people"] spChoices := by
  refine fnc0 F scChoices (fun vs H Q E h => ?_) (fun _ _ _ _ _ _ us hl => match us, hl with | [_], _ => rfl) (fun f cdv A outer s H vs Q E hr h => ?_)
  · obtain ⟨p, s, rfl, _⟩ := h
    rfl
  · obtain ⟨p, so, rfl, ⟨b, rfl, hb⟩, hl, k⟩ := h
    have cl : ∀ i, (choices (so.take i)).length ≤ 128 := fun i => by
      rw [choices_len _ _ rfl, List.length_take]
      have : min i so.length ≤ 7 := by omega
      exact Nat.pow_le_pow_right (by decide) this
    refine ⟨_, (pss_cons (ps_set (i := 1) scChoices.nd rfl (Or.inl rfl) (pe_lst (pa_cons (pe_tup pa_nil) pa_nil)))
      (pss_cons (ps_for PassesOwn.never rfl (pi_tup (pv 0)) (pg_name (i := 2) scChoices.nd rfl (Or.inr rfl)) (pss_one (ps_expr (pe_bm PySem.F.plainAttrs_list PySem.F.slot_list_extend PySem.F.type_list_extend mt_extend (pv 1) (pa_cons (pe_lc (wi := iList K _) (own := [("row", 3)]) (g := gName 3) (tt := tYes) rfl scChoices.nd (pi_list (pv 1)) (blkOk_by (N := ["people", "found", "person", "row"]) (sc := (defScope sChoices)) (by decide +kernel)) (fun _ _ _ _ _ => (pg_name (i := 3) scChoices.nd rfl (Or.inl rfl))) (fun _ _ _ _ _ => pts_nil) (fun _ _ _ _ _ => (pe_tup (pa_starK (K := K) (pv 3) (pa_cons (pv 2) pa_nil))))) pa_nil)))))
      (pss_one (ps_ret (pv 1))))), ?_⟩
    refine ⟨by decide, fun q hq => ⟨by show 1 ≤ sizeLine; decide, fun D hD => ?_⟩⟩
    have e0 : Same H (upd (upd H q (.tup [])) D (.lst [.ref q])) := (same_new hq).trans (same_new hD)
    have hDH : H D = none := by
      cases z : H D with
      | none => rfl
      | some o =>
        rw [same_new hq D _ z] at hD
        cases hD
    refine ⟨_, rfl, b, rfl, ⟨_, SqT.of (e0 _ _ hb)⟩, for_tup (xs := tv so) (fun i σ H' => Same H H' ∧ ∃ u xs, σ = [some (.ref b), some (.ref D), u, none] ∧ H' D = some (.lst xs) ∧ Paired (Ppl H') xs (choices (so.take i))) ⟨e0, none, [.ref q], rfl, upd_same, .cons ⟨q, rfl, same_new hD _ _ upd_same⟩ .nil⟩ (fun i σ H' _ p => SqT.of (p.1 _ _ hb)) (fun i x σ H' hx p => ?_) (fun σ H' p => ?_)⟩
    · obtain ⟨e, u, xs, rfl, hD1, hp⟩ := p
      obtain ⟨c, hc, rfl⟩ := tv_get hx
      have cl1 := cl i
      have lx := paired_len hp
      refine ⟨_, rfl, .inl ⟨rfl, _, SqL.of hD1⟩, un_cons (rd_mapL (R := Ppl) (S := Ppl) (l := choices (so.take i)) (fun row => row ++ [c]) (src_lst (by rfl) ⟨D, xs, rfl, hD1, hp⟩) (by omega) ppl_up ppl_up (fun x row H3 Kt hrow e3 r ky => ?_) (fun D2 ys H3 e3 hD2 hys => ?_))⟩
      · obtain ⟨ra, rfl, hra⟩ := r
        have lr : row.length ≤ 7 := Nat.le_trans (choices_mem.mp hrow).length_le (by rw [List.length_take]; omega)
        refine ⟨rfl, _, rfl, ra, tv row, rfl, .inl (SqT.of hra), _, rfl, by rw [← tv_app, List.length_map, List.length_append, sizeLine_eq]; simp; omega, fun p hp => ky _ _ (same_new hp) ⟨p, rfl, by rw [upd_same, tv_app]⟩⟩
      · have ly := paired_len hys
        rw [List.length_map] at ly
        refine ⟨D, D2, xs, ys, rfl, rfl, e3 _ _ hD1, hD2, by rw [sizeLine_eq]; omega, fun b o q => ?_, _, xs ++ ys, rfl, upd_same, ?_⟩
        · rw [upd_ne (ne_of_none q hDH)]
          exact e3 _ _ (e _ _ q)
        · have tu : Tup H3 (upd H3 D (.lst (xs ++ ys))) := tup_upd (e3 _ _ hD1) (fun xs z => by cases z)
          rw [take_snoc hc, choices_snoc]
          exact paired_app (paired_mono (fun _ _ => Ppl.mono ((tup_of e3).trans tu)) hp) (paired_mono (fun _ _ => Ppl.mono tu) hys)
    · obtain ⟨e, u, xs, rfl, hD1, hp⟩ := p
      rw [List.length_map, List.take_length] at hp
      exact ⟨_, rfl, k _ _ e ⟨D, xs, rfl, hD1, hp⟩⟩
def spCallIn : Sp := fun vs H Q _ => ∃ v p w t c, vs = [v, p, nv c] ∧ WebAt H v w ∧ c < w.length ∧ Ppl H p t ∧ t.length ≤ 100 ∧ ∀ x H', Same H H' → Ppl H' x (callIn w t c) → Q x H'
theorem scCallIn : FnScope ["web", "standing", "person", "other"] ["web", "standing", "person"] (defScope sCallIn) := ⟨rfl, rfl, rfl, by decide +kernel, rfl, by decide +kernel, by decide +kernel⟩
theorem ok_call_in (F : FnD K mg "call_in" sCallIn) (B : Bt mg) :
    Fnc P w K mg base CX0 "call_in" 1 ["web", "standing", "person"] spCallIn := by
  refine fnc0 F scCallIn (fun vs H Q E h => ?_) (fun _ _ _ _ _ _ us hl => match us, hl with | [_, _, _], _ => rfl) (fun f cdv A outer s H vs Q E hr h => ?_)
  · obtain ⟨v, p, w, t, c, rfl, _⟩ := h
    rfl
  · obtain ⟨v, p, w, so, c, rfl, hv, hcl, ⟨b, rfl, hb⟩, hl, k⟩ := h
    refine ⟨_, (pss_cons (ps_if (pt_cmpR (r := rIn K true) op_notIn_seq (pv 2) (pv 1) rfl) (pss_one (ps_ret (pv 1))) pss_nil)
      (pss_one (ps_ret (pe_callTy (r := rTuple K) call_tuple_of (by rfl) B.tuple boot_tuple (pa_cons (pe_lc (wi := iTup K _) (own := [("other", 3)]) (g := gName 3) (tt := _) rfl scCallIn.nd (pi_tup (pv 1)) (blkOk_by (N := ["web", "standing", "person", "other"]) (sc := (defScope sCallIn)) (by decide +kernel)) (fun _ _ _ _ _ => (pg_name (i := 3) scCallIn.nd rfl (Or.inl rfl))) (fun _ _ _ _ _ => pts_one (pw_or (pt_cmpR op_ge (pv 3) (pv 2) (nomark _)) (pw_or1 (pt_cmpR (r := rIn K true) op_notIn_seq (pv 3) (pe_ix (r := rIxT K) ix_tup (pv 0) (pv 2) (fun _ _ => rfl)) rfl))).pt) (fun _ _ _ _ _ => (pv 3))) pa_nil))))), ?_⟩
    refine ⟨_, rfl, _, rfl, rNotIn_nat hb ⟨_, rfl, br rfl (fun h => ?_) (fun h => ?_)⟩⟩
    · have h2 : so.contains c = false := by simpa using h
      refine ⟨_, rfl, k _ H (Same.refl _) ⟨b, rfl, ?_⟩⟩
      unfold callIn
      rw [h2]
      exact hb
    · have h2 : so.contains c = true := by simpa using h
      refine un_ret (un_cb (un_cons (rd_lcT (R := NI) (S := NI) (l := so) (fun o => decide (c ≤ o) || !(fr w c).contains o) (fun o => o) (src_ppl (by rfl) hb) (by omega) ni_up ni_up (fun x o H3 N Kt ho e3 r kn ky => ?_) (fun D ys H2 e2 hD hys => ?_))))
      · obtain rfl : x = nv o := r
        refine ⟨rfl, _, rfl, _, rfl, _, _, rfl, rfl, _, rfl, br (c := decide (c ≤ o)) (by rw [decide_eq_decide]; omega) (fun h => ?_) (fun h => ?_)⟩
        · exact iteT ⟨_, rfl, ky (by dsimp only; rw [h]; rfl) _ _ (Same.refl _) rfl⟩
        · obtain ⟨a, xs, rfl, ha, hx⟩ := hv.mono (tup_of e3)
          obtain ⟨b2, h3, h4⟩ := web_row hx hcl
          refine ⟨_, rfl, _, rfl, _, rfl, a, xs, (c : Int), _, rfl, rfl, SqT.of ha, atI_nat h3, rNotIn_nat h4 ⟨_, rfl, br rfl (fun g => ?_) (fun g => ?_)⟩⟩
          · exact ⟨_, rfl, ky (by dsimp only; rw [h, g]; rfl) _ _ (Same.refl _) rfl⟩
          · exact kn (by dsimp only; rw [h, g]; rfl) _ (Same.refl _)
      · have e : ys = tv (callIn w so c) := by
          have q := paired_eq nv hys
          unfold callIn
          rw [if_pos h2, q, List.map_map]
          rfl
        subst e
        exact ⟨D, _, rfl, .inl ⟨SqL.of hD, fun l hl => k _ _ (e2.trans (same_new hl)) ⟨l, rfl, upd_same⟩⟩⟩
def spMoversIn : Sp := fun vs H Q _ => ∃ v p w t, vs = [v, p] ∧ WebAt H v w ∧ WebOk w ∧ Ppl H p t ∧ (∀ x ∈ t, x < w.length) ∧ t.length ≤ 100 ∧ ∀ D H', H D = none → Same H H' → H' D = some (.lst (tv (moversIn w t))) → Q (.ref D) H'
theorem scMoversIn : FnScope ["web", "standing", "person", "other"] ["web", "standing"] (defScope sMoversIn) := ⟨rfl, rfl, rfl, by decide +kernel, rfl, by decide +kernel, by decide +kernel⟩
theorem ok_movers_in (F : FnD K mg "movers_in" sMoversIn) (B : Bt mg) :
    Fnc P w K mg base CX0 "movers_in" 1 ["web", "standing"] spMoversIn := by
  refine fnc0 F scMoversIn (fun vs H Q E h => ?_) (fun _ _ _ _ _ _ us hl => match us, hl with | [_, _], _ => rfl) (fun f cdv A outer s H vs Q E hr h => ?_)
  · obtain ⟨v, p, w, t, rfl, _⟩ := h
    rfl
  · obtain ⟨v, p, w, so, rfl, hv, W, ⟨b, rfl, hb⟩, hlt, hl, k⟩ := h
    have hW := W.le
    refine ⟨_, (pss_one (ps_ret (pe_lc (wi := iTup K _) (own := [("person", 2)]) (g := gName 2) (tt := _) rfl scMoversIn.nd (pi_tup (pv 1)) (blkOk_by (N := ["web", "standing", "person", "other"]) (sc := (defScope sMoversIn)) (by decide +kernel)) (fun _ _ _ _ _ => (pg_name (i := 2) scMoversIn.nd rfl (Or.inr rfl))) (fun _ _ _ _ _ => pts_one (pt_val (pe_callB (r := rAny K) (cr_any rfl) (by rfl) B.any boot_any (pa_cons (pe_lc (wi := iTup K _) (own := [("other", 3)]) (g := gName 3) (tt := tYes) rfl scMoversIn.nd (pi_tup (pe_ix (r := rIxT K) ix_tup (pv 0) (pv 2) (fun _ _ => rfl))) (blkOk_by (N := ["web", "standing", "person", "other"]) (sc := relabel _ (dEnv (defScope sMoversIn))) (by decide +kernel)) (fun _ _ _ _ _ => (pg_name (i := 3) scMoversIn.nd rfl (Or.inl rfl))) (fun _ _ _ _ _ => pts_nil) (fun _ _ _ _ _ => (pe_and (pe_cmpR op_lt (pv 3) (pv 2) (nomark _)) (pe_one (pe_cmpR (r := rIn K false) op_in_seq (pv 3) (pv 1) rfl))))) pa_nil)))) (fun _ _ _ _ _ => (pv 2))))), ?_⟩
    refine un_ret (rd_lcTN (R := NI) (S := NI) (l := so) (fun p => (fr w p).any fun o => decide (o < p) && so.contains o) (fun o => o) (src_ppl (by rfl) hb) (by omega) ni_up ni_up (fun x c H2 N Kt hc e2 r kn ky => ?_) (fun D ys H2 hDn e2 hD hys => ?_))
    · obtain rfl : x = nv c := r
      have hcl := hlt c hc
      have fl := fr_len W hcl
      refine ⟨rfl, rd_anyT (R := NI) (l := fr w c) (fun o => decide (o < c) && so.contains o) (src_row (by rfl) (by rfl) (hv.mono (tup_of e2)) hcl) (by omega) ni_up (fun x o H3 ho e3 r Kt kt => ?_) (fun H3 e3 => ?_)⟩
      · obtain rfl : x = nv o := r
        refine ⟨rfl, _, rfl, _, rfl, _, _, rfl, rfl, _, rfl, br (c := decide (o < c)) (by rw [decide_eq_decide]; omega) (fun h => ?_) (fun h => ?_)⟩
        · refine ⟨_, rfl, _, rfl, rIn_nat (e3 _ _ (e2 _ _ hb)) ?_⟩
          have := kt H3 (Same.refl _)
          rw [h, Bool.true_and] at this
          exact this
        · have := kt H3 (Same.refl _)
          rw [h, Bool.false_and] at this
          exact this
      · refine ⟨_, rfl, br rfl (fun h => ?_) (fun h => ?_)⟩
        · exact ⟨_, rfl, ky h _ _ e3 rfl⟩
        · exact kn h _ e3
    · have e : ys = tv (moversIn w so) := by
        have q := paired_eq nv hys
        rw [q, List.map_map]
        rfl
      subst e
      exact k D H2 hDn e2 hD
def spMayCall : Sp := fun vs H Q _ => ∃ v p q w s g, vs = [v, p, q] ∧ WebAt H v w ∧ WebOk w ∧ Ppl H p s ∧ SetOk w.length s ∧ Ppl H q g ∧ ∀ x H', Same H H' → Ppl H' x (mayCall w s g) → Q x H'
theorem scMayCall : FnScope ["web", "standing", "goal", "found", "person", "other"] ["web", "standing", "goal"] (defScope sMayCall) := ⟨rfl, rfl, rfl, by decide +kernel, rfl, by decide +kernel, by decide +kernel⟩
theorem ok_may_call (F : FnD K mg "may_call" sMayCall) (B : Bt mg) :
    Fnc P w K mg base CX0 "may_call" 1 ["web", "standing", "goal"] spMayCall := by
  refine fnc0 F scMayCall (fun vs H Q E h => ?_) (fun _ _ _ _ _ _ us hl => match us, hl with | [_, _, _], _ => rfl) (fun f cdv A outer s H vs Q E hr h => ?_)
  · obtain ⟨v, p, q, w, s, g, rfl, _⟩ := h
    rfl
  · obtain ⟨v, p, gv, w, so, go, rfl, hv, W, ⟨b, rfl, hb⟩, O, ⟨gb, rfl, hgb⟩, k⟩ := h
    have hsl := SetOk.len O
    have hW := W.le
    refine ⟨_, (pss_cons (ps_set (i := 3) scMayCall.nd rfl (Or.inl rfl) (pe_lst pa_nil))
      (pss_cons (ps_for PassesOwn.never rfl (pi_tup (pv 1)) (pg_name (i := 4) scMayCall.nd rfl (Or.inr rfl)) (pss_one (ps_if (pt_not (pt_val (pe_callB (r := rAny K) (cr_any rfl) (by rfl) B.any boot_any (pa_cons (pe_lc (wi := iTup K _) (own := [("other", 5)]) (g := gName 5) (tt := tYes) rfl scMayCall.nd (pi_tup (pe_ix (r := rIxT K) ix_tup (pv 0) (pv 4) (fun _ _ => rfl))) (blkOk_by (N := ["web", "standing", "goal", "found", "person", "other"]) (sc := (defScope sMayCall)) (by decide +kernel)) (fun _ _ _ _ _ => (pg_name (i := 5) scMayCall.nd rfl (Or.inl rfl))) (fun _ _ _ _ _ => pts_nil) (fun _ _ _ _ _ => (pe_and (pe_cmpR op_lt (pv 5) (pv 4) (nomark _)) (pe_one (pe_cmpR (r := rIn K false) op_in_seq (pv 5) (pv 2) rfl))))) pa_nil)))) (pss_one (ps_expr (pe_bm PySem.F.plainAttrs_list PySem.F.slot_list_append PySem.F.type_list_append mt_append (pv 3) (pa_cons (pv 4) pa_nil)))) pss_nil)))
      (pss_one (ps_ret (pe_callTy (r := rTuple K) call_tuple_of (by rfl) B.tuple boot_tuple (pa_cons (pv 3) pa_nil)))))), ?_⟩
    refine ⟨by decide, fun D hD => ?_⟩
    have e0 := same_new (o := .lst []) hD
    refine ⟨_, rfl, b, rfl, ⟨_, SqT.of (e0 _ _ hb)⟩, for_tup (xs := tv so) (fun i σ H' => Same H H' ∧ ∃ u, σ = [some v, some (.ref b), some (.ref gb), some (.ref D), u, none] ∧ H' D = some (.lst (tv ((so.take i).filter (fun p => !((fr w p).any fun o => decide (o < p) && go.contains o)))))) ⟨e0, none, rfl, upd_same⟩ (fun i σ H' _ p => SqT.of (p.1 _ _ hb)) (fun i x σ H' hx p => ?_) (fun σ H' p => ?_)⟩
    · obtain ⟨e, u, rfl, hD1⟩ := p
      obtain ⟨c, hc, rfl⟩ := tv_get hx
      have hcl := O.lt c (List.mem_of_getElem? hc)
      have fl := fr_len W hcl
      have hle := flt_len so i (fun p => !((fr w p).any fun o => decide (o < p) && go.contains o))
      refine rd_anyT (R := NI) (l := fr w c) (fun o => decide (o < c) && go.contains o) (src_row (by rfl) (by rfl) (hv.mono (tup_of e)) hcl) (by omega) ni_up (fun x o H3 ho e3 r Kt kt => ?_) (fun H3 e3 => ?_)
      · obtain rfl : x = nv o := r
        refine ⟨rfl, _, rfl, _, rfl, _, _, rfl, rfl, _, rfl, br (c := decide (o < c)) (by rw [decide_eq_decide]; omega) (fun h => ?_) (fun h => ?_)⟩
        · refine ⟨_, rfl, _, rfl, rIn_nat (e3 _ _ (e _ _ hgb)) ?_⟩
          have := kt H3 (Same.refl _)
          rw [h, Bool.true_and] at this
          exact this
        · have := kt H3 (Same.refl _)
          rw [h, Bool.false_and] at this
          exact this
      · refine ⟨_, rfl, br (c := (fun p => !((fr w p).any fun o => decide (o < p) && go.contains o)) c) rfl (fun hp => ?_) (fun hp => ?_)⟩
        · refine ⟨_, rfl, .inl ⟨rfl, _, SqL.of (e3 _ _ hD1)⟩, _, rfl, D, _, _, rfl, rfl, e3 _ _ hD1, by rw [List.length_map, sizeLine_eq]; omega, ?_⟩
          refine ⟨fun b o q => ?_, _, rfl, ?_⟩
          · rw [upd_ne (ne_of_none q hD)]
            exact e3 _ _ (e _ _ q)
          · rw [flt_pos hc hp, tv_app]
            exact upd_same
        · refine ⟨e.trans e3, _, rfl, ?_⟩
          rw [flt_neg hc hp]
          exact e3 _ _ hD1
    · obtain ⟨e, u, rfl, hD1⟩ := p
      rw [List.length_map, List.take_length] at hD1
      exact ⟨_, rfl, D, _, rfl, .inl ⟨SqL.of hD1, fun l hl => k _ _ (e.trans (same_new hl)) ⟨l, rfl, upd_same⟩⟩⟩
end
end Ts



set_option Elab.async false
set_option linter.all false
set_option maxRecDepth 100000
set_option maxHeartbeats 4000000
namespace Ts
open PySem PySem.Spec PyProof.Rows L2 Tm
theorem paired_perm {α : Type} {R : V → α → Prop} {ys xs : List V} (h : ys.Perm xs) : ∀ {l : List α}, Paired R xs l → ∃ m, m.Perm l ∧ Paired R ys m := by
  induction h with
  | nil => intro l p; exact ⟨l, .refl _, p⟩
  | cons x _ ih =>
    intro l p
    cases p with
    | cons r t =>
      obtain ⟨m, h1, h2⟩ := ih t
      exact ⟨_, h1.cons _, .cons r h2⟩
  | swap x y zs =>
    intro l p
    cases p with
    | cons r t =>
      cases t with
      | cons r2 t2 => exact ⟨_, .swap _ _ _, .cons r2 (.cons r t2)⟩
  | trans _ _ ih1 ih2 =>
    intro l p
    obtain ⟨m, h1, h2⟩ := ih2 p
    obtain ⟨m2, h3, h4⟩ := ih1 h2
    exact ⟨m2, h3.trans h1, h4⟩
theorem paired_mem {α : Type} {R : V → α → Prop} : ∀ {xs : List V} {l : List α} {x : V}, Paired R xs l → x ∈ xs → ∃ c ∈ l, R x c
  | _, _, _, .nil, h => by cases h
  | _, _, x, .cons r t, h => by
    rcases List.mem_cons.mp h with e | h
    · subst e
      exact ⟨_, List.mem_cons_self, r⟩
    · obtain ⟨c, h1, h2⟩ := paired_mem t h
      exact ⟨c, List.mem_cons_of_mem _ h1, h2⟩
theorem rd_sorted {K : PySem.W.Frag} {H : Hp} {Q : VK} {a : Addr} {xs : List V} {l : List (List Nat)} (ha : H a = some (.lst xs)) (hp : Paired (Ppl H) xs l) (k : ∀ x m H', Same H H' → m.Perm l → LstT H' x m → Q x H') : rSortedT K [.ref a] H Q := by
  refine ⟨a, xs, rfl, SqL.of ha, fun x hx => ?_, fun ys p hy hpn => ?_⟩
  · obtain ⟨c, _, t, rfl, h⟩ := paired_mem hp hx
    exact ⟨t, cI c, rfl, by rw [cI_tv]; exact h⟩
  · obtain ⟨m, h1, h2⟩ := paired_perm hy hp
    have e := same_new (o := .lst ys) hpn
    exact k _ m _ e h1 ⟨p, ys, rfl, upd_same, paired_mono (fun _ _ => Ppl.mono (tup_of e)) h2⟩
theorem src_lstN {σ : L2.St} {H : Hp} {j : Nat} {a : Addr} {s : List Nat} (hj : σ[j]? = some (some (.ref a))) (ha : H a = some (.lst (tv s))) : LstSrc NI s (tVar j) σ H := fun C k => ⟨_, hj, k a (tv s) H (Same.refl _) ha (tv_paired _ _)⟩
theorem foldl_callIn_sub (w : Web) : ∀ (row t : List Nat), (row.foldl (callIn w) t).Sublist t
  | [], t => List.Sublist.refl _
  | c :: row, t => (foldl_callIn_sub w row (callIn w t c)).trans (callIn_sub w t c)
section
variable {P : Program} {w : World} {K : PySem.W.Frag} {mg : Str → Option Value} {base : Heap}
def spFits : Sp := fun vs H Q _ => ∃ v p q w s g, vs = [v, p, q] ∧ WebAt H v w ∧ WebOk w ∧ Ppl H p s ∧ SetOk w.length s ∧ Ppl H q g ∧ SetOk w.length g ∧ ∀ H', Same H H' → Q (.bl (fits w s g)) H'
theorem scFits : FnScope ["web", "standing", "goal", "free", "gone", "person", "other"] ["web", "standing", "goal"] (defScope sFits) := ⟨rfl, rfl, rfl, by decide +kernel, rfl, by decide +kernel, by decide +kernel⟩
theorem ok_fits (F : FnD K mg "fits" sFits) (B : Bt mg) (g_may_call : Fnc P w K mg base CX0 "may_call" 1 ["web", "standing", "goal"] spMayCall) (g_taller_in : Fnc P w K mg base CX0 "taller_in" 1 ["web", "person"] spTallerIn) :
    Fnc P w K mg base CX0 "fits" 2 ["web", "standing", "goal"] spFits := by
  refine fnc0 F scFits (fun vs H Q E h => ?_) (fun _ _ _ _ _ _ us hl => match us, hl with | [_, _, _], _ => rfl) (fun f cdv A outer s H vs Q E hr h => ?_)
  · obtain ⟨v, p, q, w, s, g, rfl, _⟩ := h
    rfl
  · obtain ⟨v, p, gv, w, so, go, rfl, hv, W, ⟨b, rfl, hb⟩, O, ⟨gb, rfl, hgb⟩, G, k⟩ := h
    have hsl := SetOk.len O
    have hgl := SetOk.len G
    have hW := W.le
    refine ⟨_, (pss_cons (ps_if (pt_not (pt_val (pe_callB (r := rAll K) (cr_all rfl) (by rfl) B.all boot_all (pa_cons (pe_lc (wi := iTup K _) (own := [("person", 5)]) (g := gName 5) (tt := tYes) rfl scFits.nd (pi_tup (pv 2)) (blkOk_by (N := ["web", "standing", "goal", "free", "gone", "person", "other"]) (sc := (defScope sFits)) (by decide +kernel)) (fun _ _ _ _ _ => (pg_name (i := 5) scFits.nd rfl (Or.inl rfl))) (fun _ _ _ _ _ => pts_nil) (fun _ _ _ _ _ => (pe_cmpR (r := rIn K false) op_in_seq (pv 5) (pv 1) rfl))) pa_nil)))) (pss_one (ps_ret pe_bl)) pss_nil)
      (pss_cons (ps_set (i := 3) scFits.nd rfl (Or.inr rfl) (pe_fn (g_may_call.mono (by decide)) hr (pa_cons (pv 0) (pa_cons (pv 1) (pa_cons (pv 2) pa_nil)))))
      (pss_cons (ps_setLc (i := 4) (wi := iTup K _) (own := [("person", 5)]) (g := gName 5) (tt := _) rfl scFits.nd rfl rfl (sw_true rfl rfl rfl rfl) (pi_tup (pv 1)) (blkOk_by (N := ["web", "standing", "goal", "free", "gone", "person", "other"]) (sc := (defScope sFits)) (by decide +kernel)) (fun _ _ _ _ _ => (pg_name (i := 5) scFits.nd rfl (Or.inl rfl))) (fun _ _ _ _ _ => pts_one (pt_cmpR (r := rIn K true) op_notIn_seq (pv 5) (pv 2) rfl)) (fun _ _ _ _ _ => (pv 5)))
      (pss_one (ps_ret (pe_callB (r := rAll K) (cr_all rfl) (by rfl) B.all boot_all (pa_cons (pe_lc (wi := iList K _) (own := [("person", 5)]) (g := gName 5) (tt := tYes) rfl scFits.nd (pi_list (pv 4)) (blkOk_by (N := ["web", "standing", "goal", "free", "gone", "person", "other"]) (sc := (defScope sFits)) (by decide +kernel)) (fun _ _ _ _ _ => (pg_name (i := 5) scFits.nd rfl (Or.inl rfl))) (fun _ _ _ _ _ => pts_nil) (fun _ _ _ _ _ => (pe_callB (r := rAny K) (cr_any rfl) (by rfl) B.any boot_any (pa_cons (pe_lc (wi := iTup K _) (own := [("other", 6)]) (g := gName 6) (tt := tYes) rfl scFits.nd (pi_tup (pe_fn (g_taller_in.mono (by decide)) hr (pa_cons (pv 0) (pa_cons (pv 5) pa_nil)))) (blkOk_by (N := ["web", "standing", "goal", "free", "gone", "person", "other"]) (sc := relabel _ (dEnv (defScope sFits))) (by decide +kernel)) (fun _ _ _ _ _ => (pg_name (i := 6) scFits.nd rfl (Or.inl rfl))) (fun _ _ _ _ _ => pts_nil) (fun _ _ _ _ _ => (pe_cmpR (r := rIn K false) op_in_seq (pv 6) (pv 3) rfl))) pa_nil)))) pa_nil))))))), ?_⟩
    refine un_seq ?_
    refine rd_allT (R := NI) (l := go) (fun p => so.contains p) (src_ppl (by rfl) hgb) (by omega) ni_up (fun x o H3 ho e3 r Kt kt => ?_) (fun H3 e3 => ?_)
    · obtain rfl : x = nv o := r
      exact ⟨rfl, _, rfl, _, rfl, rIn_nat (e3 _ _ hb) (kt H3 (Same.refl _))⟩
    refine ⟨_, rfl, br rfl (fun h => ?_) (fun h => ?_)⟩
    · have h2 : (go.all fun p => so.contains p) = false := by simpa using h
      have z := k H3 e3
      unfold fits at z
      rw [h2, Bool.false_and] at z
      exact z
    have h2 : (go.all fun p => so.contains p) = true := by simpa using h
    refine un_seq ⟨_, rfl, _, rfl, _, rfl, v, _, _, w, so, go, rfl, hv.mono (tup_of e3), W, ⟨b, rfl, e3 _ _ hb⟩, O, ⟨gb, rfl, e3 _ _ hgb⟩, fun x H4 e4 hx => ?_⟩
    obtain ⟨fb, rfl, hfb⟩ := hx
    have e34 := e3.trans e4
    refine un_seq (un_asg (rd_lcT (R := NI) (S := NI) (l := so) (fun p => !go.contains p) (fun o => o) (src_ppl (by rfl) (e34 _ _ hb)) (by omega) ni_up ni_up (fun x c H5 N Kt hc e5 r kn ky => ?_) (fun D ys H5 e5 hD hys => ?_)))
    · obtain rfl : x = nv c := r
      refine ⟨rfl, _, rfl, _, rfl, rNotIn_nat (e5 _ _ (e34 _ _ hgb)) ⟨_, rfl, br rfl (fun g => ?_) (fun g => ?_)⟩⟩
      · exact ⟨_, rfl, ky g _ _ (Same.refl _) rfl⟩
      · exact kn g _ (Same.refl _)
    have e : ys = tv (so.filter fun p => !go.contains p) := by
      have q := paired_eq nv hys
      rw [q, List.map_map]
      rfl
    subst e
    have e345 := e34.trans e5
    have hlf : (so.filter fun p => !go.contains p).length ≤ so.length := List.length_filter_le _ _
    refine un_ret (rd_allL (R := NI) (l := so.filter fun p => !go.contains p) (fun p => (tallerIn w p).any fun o => (mayCall w so go).contains o) (src_lstN (by rfl) hD) (by omega) ni_up (fun x c H6 hc e6 r Kt kt => ?_) (fun H6 e6 => ?_))
    · obtain rfl : x = nv c := r
      have hcl := O.lt c (List.mem_filter.mp hc).1
      have fl := fr_len W hcl
      have htl : (tallerIn w c).length ≤ (fr w c).length := List.length_filter_le _ _
      have e6' := e345.trans e6
      refine ⟨rfl, rd_anyT (R := NI) (l := tallerIn w c) (fun o => (mayCall w so go).contains o) (fun C q => ⟨_, rfl, _, rfl, v, w, c, rfl, hv.mono (tup_of e6'), W, hcl, fun x H' e hx => ?_⟩) (by omega) ni_up (fun x o H7 ho e7 r Kt kt => ?_) (fun H7 e7 => kt H7 e7)⟩
      · obtain ⟨a, rfl, ha⟩ := hx
        exact q a _ H' e ha (tv_paired _ _)
      · obtain rfl : x = nv o := r
        exact ⟨rfl, _, rfl, _, rfl, rIn_nat (e7 _ _ (e6 _ _ (e5 _ _ hfb))) (kt H7 (Same.refl _))⟩
    · have z := k H6 (e345.trans e6)
      unfold fits at z
      rw [h2, Bool.true_and] at z
      exact z
def spNeedWay : Sp := fun vs H Q _ => ∃ v p q w s g, vs = [v, p, q] ∧ WebAt H v w ∧ WebOk w ∧ Ppl H p s ∧ SetOk w.length s ∧ Ppl H q g ∧ SetOk w.length g ∧ Rch w s g ∧ ∀ H', Same H H' → Q .non H'
theorem scNeedWay : FnScope ["web", "standing", "goal"] ["web", "standing", "goal"] (defScope sNeedWay) := ⟨rfl, rfl, rfl, by decide +kernel, rfl, by decide +kernel, by decide +kernel⟩
theorem ok_need_way (F : FnD K mg "need_way" sNeedWay) (B : Bt mg) (g_need_two : Fnc P w K mg base CX0 "need_two" 5 ["web", "standing", "goal"] spNeedTwo) (g_fits : Fnc P w K mg base CX0 "fits" 2 ["web", "standing", "goal"] spFits) :
    Fnc P w K mg base CX0 "need_way" 6 ["web", "standing", "goal"] spNeedWay := by
  refine fnc0 F scNeedWay (fun vs H Q E h => ?_) (fun _ _ _ _ _ _ us hl => match us, hl with | [_, _, _], _ => rfl) (fun f cdv A outer s H vs Q E hr h => ?_)
  · obtain ⟨v, p, q, w, s, g, rfl, _⟩ := h
    rfl
  · obtain ⟨v, p, q, w, so, go, rfl, hv, W, hs, O, hg, G, hr2, k⟩ := h
    refine ⟨_, (pss_cons (ps_expr (pe_fn (g_need_two.mono (by decide)) hr (pa_cons (pv 0) (pa_cons (pv 1) (pa_cons (pv 2) pa_nil)))))
      (pss_one (ps_if (pt_not (pt_val (pe_fn (g_fits.mono (by decide)) hr (pa_cons (pv 0) (pa_cons (pv 1) (pa_cons (pv 2) pa_nil)))))) pss_never pss_nil))), ?_⟩
    refine ⟨_, rfl, _, rfl, _, rfl, v, p, q, w, so, go, rfl, hv, W, hs, O, hg, G, fun H1 e1 => ⟨_, rfl, _, rfl, _, rfl, v, p, q, w, so, go, rfl, hv.mono (tup_of e1), W, hs.mono (tup_of e1), O, hg.mono (tup_of e1), G, fun H' e => ⟨_, rfl, ?_⟩⟩⟩
    rw [(fits_iff W O G).mpr hr2]
    exact iteF (k H' (e1.trans e))
def spLeads : Sp := fun vs H Q _ => ∃ v p q r w s g row, vs = [v, p, q, r] ∧ WebAt H v w ∧ Ppl H p s ∧ s.length ≤ 100 ∧ Ppl H q g ∧ Ppl H r row ∧ (∀ x ∈ row, x < w.length) ∧ row.length ≤ 100 ∧ ∀ H', Same H H' → Q (.bl (decide (row.foldl (callIn w) s = g))) H'
theorem scLeads : FnScope ["web", "standing", "goal", "people", "here", "person"] ["web", "standing", "goal", "people"] (defScope sLeads) := ⟨rfl, rfl, rfl, by decide +kernel, rfl, by decide +kernel, by decide +kernel⟩
theorem ok_leads (F : FnD K mg "leads" sLeads) (B : Bt mg) (g_call_in : Fnc P w K mg base CX0 "call_in" 1 ["web", "standing", "person"] spCallIn) :
    Fnc P w K mg base CX0 "leads" 2 ["web", "standing", "goal", "people"] spLeads := by
  refine fnc0 F scLeads (fun vs H Q E h => ?_) (fun _ _ _ _ _ _ us hl => match us, hl with | [_, _, _, _], _ => rfl) (fun f cdv A outer s H vs Q E hr h => ?_)
  · obtain ⟨v, p, q, r, w, s, g, row, rfl, _⟩ := h
    rfl
  · obtain ⟨v, p, q, r, w, so, go, row, rfl, hv, hs, hsl, hg, ⟨rb, rfl, hrb⟩, hlt, hrl, k⟩ := h
    refine ⟨_, (pss_cons (ps_set (i := 4) scLeads.nd rfl (Or.inl rfl) (pv 1))
      (pss_cons (ps_for PassesOwn.never rfl (pi_tup (pv 3)) (pg_name (i := 5) scLeads.nd rfl (Or.inl rfl)) (pss_one (ps_set (i := 4) scLeads.nd rfl (Or.inl rfl) (pe_fn (g_call_in.mono (by decide)) hr (pa_cons (pv 0) (pa_cons (pv 4) (pa_cons (pv 5) pa_nil)))))))
      (pss_one (ps_ret (pe_cmpR (r := rEqD K) (op_eqD hr.units) (pv 4) (pv 2) (nomark _)))))), ?_⟩
    refine un_seq ⟨_, rfl, ?_⟩
    refine un_seq ⟨_, rfl, rb, rfl, ⟨_, SqT.of hrb⟩, for_tup (xs := tv row) (fun i σ H' => Same H H' ∧ ∃ u hx, σ = [some v, some p, some q, some (.ref rb), some hx, u] ∧ Ppl H' hx ((row.take i).foldl (callIn w) so)) ⟨Same.refl _, none, p, rfl, hs⟩ (fun i σ H' _ z => SqT.of (z.1 _ _ hrb)) (fun i x σ H' hx z => ?_) (fun σ H' z => ?_)⟩
    · obtain ⟨e, u, hx2, rfl, hh⟩ := z
      obtain ⟨c, hc, rfl⟩ := tv_get hx
      have hcl := hlt c (List.mem_of_getElem? hc)
      have hl2 := (foldl_callIn_sub w (row.take i) so).length_le
      refine ⟨_, rfl, _, rfl, _, rfl, v, hx2, w, _, c, rfl, hv.mono (tup_of e), hcl, hh, by omega, fun x H2 e2 hx => ?_⟩
      refine ⟨e.trans e2, _, x, rfl, ?_⟩
      rw [take_snoc hc, List.foldl_append]
      exact hx
    · obtain ⟨e, u, hx2, rfl, hh⟩ := z
      rw [List.length_map, List.take_length] at hh
      exact ⟨_, rfl, _, rfl, rEq_ppl hh (hg.mono (tup_of e)) (k H' e)⟩
def spTellingIn : Sp := fun vs H Q _ => ∃ v p q w s g, vs = [v, p, q] ∧ WebAt H v w ∧ WebOk w ∧ Ppl H p s ∧ SetOk w.length s ∧ Ppl H q g ∧ ∀ x L H', Same H H' → L.Perm (tellL w s g) → LstT H' x L → Q x H'
theorem scTellingIn : FnScope ["web", "standing", "goal", "row"] ["web", "standing", "goal"] (defScope sTellingIn) := ⟨rfl, rfl, rfl, by decide +kernel, rfl, by decide +kernel, by decide +kernel⟩
theorem ok_telling_in (F : FnD K mg "telling_in" sTellingIn) (B : Bt mg) (g_choices : Fnc P w K mg base CX0 "choices" 1 ["people"] spChoices) (g_may_call : Fnc P w K mg base CX0 "may_call" 1 ["web", "standing", "goal"] spMayCall) (g_leads : Fnc P w K mg base CX0 "leads" 2 ["web", "standing", "goal", "people"] spLeads) :
    Fnc P w K mg base CX0 "telling_in" 3 ["web", "standing", "goal"] spTellingIn := by
  refine fnc0 F scTellingIn (fun vs H Q E h => ?_) (fun _ _ _ _ _ _ us hl => match us, hl with | [_, _, _], _ => rfl) (fun f cdv A outer s H vs Q E hr h => ?_)
  · obtain ⟨v, p, q, w, s, g, rfl, _⟩ := h
    rfl
  · obtain ⟨v, p, q, w, so, go, rfl, hv, W, hs, O, hg, k⟩ := h
    have hsl := SetOk.len O
    have hW := W.le
    have hml : (mayCall w so go).length ≤ so.length := List.length_filter_le _ _
    have hcl : (choices (mayCall w so go)).length ≤ 128 := by
      rw [choices_len _ _ rfl]
      exact Nat.pow_le_pow_right (by decide) (by omega : (mayCall w so go).length ≤ 7)
    refine ⟨_, (pss_one (ps_ret (pe_callB (r := rSortedT K) (cr_sortedT (Nat.lt_of_le_of_lt (Nat.add_le_add_left (by decide) _) hr.units)) (by rfl) B.sorted boot_sorted (pa_cons (pe_lc (wi := iList K _) (own := [("row", 3)]) (g := gName 3) (tt := _) rfl scTellingIn.nd (pi_list (pe_fn (g_choices.mono (by decide)) hr (pa_cons (pe_fn (g_may_call.mono (by decide)) hr (pa_cons (pv 0) (pa_cons (pv 1) (pa_cons (pv 2) pa_nil)))) pa_nil))) (blkOk_by (N := ["web", "standing", "goal", "row"]) (sc := (defScope sTellingIn)) (by decide +kernel)) (fun _ _ _ _ _ => (pg_name (i := 3) scTellingIn.nd rfl (Or.inl rfl))) (fun _ _ _ _ _ => pts_one (pt_val (pe_fn (g_leads.mono (by decide)) hr (pa_cons (pv 0) (pa_cons (pv 1) (pa_cons (pv 2) (pa_cons (pv 3) pa_nil))))))) (fun _ _ _ _ _ => (pv 3))) pa_nil)))), ?_⟩
    refine un_ret (un_cb (un_cons (rd_lcL (R := Ppl) (S := Ppl) (l := choices (mayCall w so go)) (fun row => row.foldl (callIn w) so == go) (fun row => row) (fun C kq => ⟨_, rfl, _, rfl, _, rfl, v, p, q, w, so, go, rfl, hv, W, hs, O, hg, fun x H1 e1 hx => ⟨x, _, rfl, hx, by omega, fun y H2 e2 hy => ?_⟩⟩) (by omega) ppl_up ppl_up (fun x row H2 N Kt hrow e2 rx kn ky => ?_) (fun D ys H2 e2 hD hys => ?_))))
    · obtain ⟨a, xs, rfl, ha, hp⟩ := hy
      exact kq a xs H2 (e1.trans e2) ha hp
    · have hsub := choices_mem.mp hrow
      have hrl := hsub.length_le
      refine ⟨rfl, _, rfl, _, rfl, _, rfl, _, rfl, v, p, q, x, w, so, go, row, rfl, hv.mono (tup_of e2), hs.mono (tup_of e2), by omega, hg.mono (tup_of e2), rx, fun y hy => O.lt y (List.mem_filter.mp (hsub.subset hy)).1, by omega, fun H3 e3 => ⟨_, rfl, br (c := row.foldl (callIn w) so == go) ?_ (fun h => ?_) (fun h => ?_)⟩⟩
      · by_cases z : row.foldl (callIn w) so = go
        · simp [z]
        · simp [z]
      · exact ⟨_, rfl, ky h _ _ e3 (rx.mono (tup_of e3))⟩
      · exact kn h _ e3
    · rw [List.map_id'] at hys
      exact rd_sorted hD hys fun x m H3 e3 hm hx => k x m H3 (e2.trans e3) hm hx
def spDistance : Sp := fun vs H Q _ => ∃ v p q w s g, vs = [v, p, q] ∧ WebAt H v w ∧ WebOk w ∧ Ppl H p s ∧ SetOk w.length s ∧ Ppl H q g ∧ SetOk w.length g ∧ Rch w s g ∧ ∀ d H', Same H H' → Dist w s g d → Q (nv d) H'
theorem scDistance : FnScope ["web", "standing", "goal", "row"] ["web", "standing", "goal"] (defScope sDistance) := ⟨rfl, rfl, rfl, by decide +kernel, rfl, by decide +kernel, by decide +kernel⟩
theorem ok_distance (F : FnD K mg "distance" sDistance) (B : Bt mg) (g_need_way : Fnc P w K mg base CX0 "need_way" 6 ["web", "standing", "goal"] spNeedWay) (g_telling_in : Fnc P w K mg base CX0 "telling_in" 3 ["web", "standing", "goal"] spTellingIn) :
    Fnc P w K mg base CX0 "distance" 7 ["web", "standing", "goal"] spDistance := by
  refine fnc0 F scDistance (fun vs H Q E h => ?_) (fun _ _ _ _ _ _ us hl => match us, hl with | [_, _, _], _ => rfl) (fun f cdv A outer s H vs Q E hr h => ?_)
  · obtain ⟨v, p, q, w, s, g, rfl, _⟩ := h
    rfl
  · obtain ⟨v, p, q, w, so, go, rfl, hv, W, hs, O, hg, G, hR, k⟩ := h
    have hsl := SetOk.len O
    have hW := W.le
    refine ⟨_, (pss_cons (ps_expr (pe_fn (g_need_way.mono (by decide)) hr (pa_cons (pv 0) (pa_cons (pv 1) (pa_cons (pv 2) pa_nil)))))
      (pss_one (ps_ret (pe_callB (r := rMin K) (cr_min rfl) (by rfl) B.min boot_min (pa_cons (pe_lc (wi := iList K _) (own := [("row", 3)]) (g := gName 3) (tt := tYes) rfl scDistance.nd (pi_list (pe_fn (g_telling_in.mono (by decide)) hr (pa_cons (pv 0) (pa_cons (pv 1) (pa_cons (pv 2) pa_nil))))) (blkOk_by (N := ["web", "standing", "goal", "row"]) (sc := (defScope sDistance)) (by decide +kernel)) (fun _ _ _ _ _ => (pg_name (i := 3) scDistance.nd rfl (Or.inl rfl))) (fun _ _ _ _ _ => pts_nil) (fun _ _ _ _ _ => (pe_callB (r := rLen K) call_len_seq (by rfl) B.len boot_len (pa_cons (pv 3) pa_nil)))) pa_nil))))), ?_⟩
    refine un_seq ⟨_, rfl, _, rfl, _, rfl, v, p, q, w, so, go, rfl, hv, W, hs, O, hg, G, hR, fun H1 e1 => ?_⟩
    have tl : (tellL w so go).length ≤ 128 := by
      have h1 : (tellL w so go).length ≤ (choices (mayCall w so go)).length := List.length_filter_le _ _
      have hml : (mayCall w so go).length ≤ so.length := List.length_filter_le _ _
      rw [choices_len _ _ rfl] at h1
      have h2 : 2 ^ (mayCall w so go).length ≤ 2 ^ 7 := Nat.pow_le_pow_right (by decide) (by omega)
      omega
    dsimp only
    refine un_ret (un_cb (un_cons (rd_mapLE (R := Ppl) (S := NI) (PL := fun L => L.Perm (tellL w so go)) List.length (fun C kq => ⟨_, rfl, _, rfl, _, rfl, v, p, q, w, so, go, rfl, hv.mono (tup_of e1), W, hs.mono (tup_of e1), O, hg.mono (tup_of e1), fun x L H2 e2 hL hx => ?_⟩) (fun L hL => by rw [hL.length_eq]; omega) ppl_up ni_up (fun L hL x row H2 Kt hrow e2 rx ky => ?_) (fun L hL D ys H2 e2 hD hys => ?_))))
    · obtain ⟨a, xs, rfl, ha, hp⟩ := hx
      exact kq L a xs H2 hL e2 ha hp
    · obtain ⟨ra, rfl, hra⟩ := rx
      refine ⟨rfl, _, rfl, ra, _, rfl, .inr (SqT.of hra), ?_⟩
      rw [List.length_map]
      exact ky _ _ (Same.refl _) rfl
    · have q1 := paired_eq nv hys
      rw [List.map_map] at q1
      have hys2 : ys = (L.map fun r => (r.length : Int)).map V.int := by
        rw [q1, List.map_map]
        rfl
      have hne : 0 < L.length := by
        obtain ⟨S, h1, h2⟩ := hR
        have h3 : S ∈ tellL w so go := (mem_tellL O.asc).mpr ⟨h1, h2⟩
        exact List.length_pos_of_mem (hL.mem_iff.mpr h3)
      refine ⟨D, L.map fun r => (r.length : Int), rfl, SqL.of (by rw [← hys2]; exact hD), by rw [List.length_map]; exact hne, fun m hm hmin => ?_⟩
      obtain ⟨S, hS, rfl⟩ := List.mem_map.mp hm
      exact k _ _ (e1.trans e2) (tell_dist O.asc ⟨S, hL.mem_iff.mp hS, rfl⟩ fun S2 h2 => by
        have := hmin _ (List.mem_map.mpr ⟨S2, hL.mem_iff.mpr h2, rfl⟩)
        omega)
end
end Ts



set_option Elab.async false
set_option linter.all false
set_option maxRecDepth 100000
set_option maxHeartbeats 4000000
namespace Ts
open PySem PySem.Spec PyProof.Rows L2 Tm
theorem keyN_inj {a b : List Nat} (h : keyN a = keyN b) : a = b := by
  have e := congrArg (List.map kV) h
  rw [keyN_kV, keyN_kV] at e
  exact (List.map_inj_right fun x y z => by
    have : (x : Int) = (y : Int) := V.int.inj z
    omega).mp e
theorem kvN_has (l : Kvs) (t : List Nat) : (valV (kvN l) (keyN t)).isSome = (l.map (·.1)).contains t := by
  rw [← valV_any, List.any_map]
  induction l with
  | nil => rfl
  | cons q l ih =>
    rw [List.any_cons, ih, List.map_cons, List.contains_cons]
    congr 1
    show decide (keyN q.1 = keyN t) = (t == q.1)
    by_cases e : q.1 = t
    · rw [e]
      simp
    · rw [decide_eq_false fun z => e (keyN_inj z)]
      exact (beq_eq_false_iff_ne.mpr fun z => e z.symm).symm
theorem kvN_put {l : Kvs} {t : List Nat} {m : Nat} (h : (l.map (·.1)).contains t = false) : putK (kvN l) (keyN t) (nv m) = kvN (l ++ [(t, m)]) := by
  unfold putK
  rw [valV_any, kvN_has, h, if_neg Bool.false_ne_true]
  show _ = List.map _ (l ++ [(t, m)])
  rw [List.map_append]
  rfl
/-- what the walk holds is small -/
structure NB (s : List Nat) (acc : Kvs × List (List Nat)) : Prop where
  nd : (acc.1.map (·.1)).Nodup
  sub : ∀ t ∈ acc.1.map (·.1), t.Sublist s
  le : acc.2.length ≤ acc.1.length
theorem NB.len {s : List Nat} {acc : Kvs × List (List Nat)} (h : NB s acc) (hs : s.length ≤ 7) : acc.1.length ≤ 128 := by
  have h1 : (acc.1.map (·.1)).length ≤ (choices s).length := nodup_len h.nd fun t ht => choices_mem.mpr (h.sub t ht)
  rw [List.length_map, choices_len _ _ rfl] at h1
  have h2 : 2 ^ s.length ≤ 2 ^ 7 := Nat.pow_le_pow_right (by decide) hs
  omega
theorem NB.step {s : List Nat} {acc : Kvs × List (List Nat)} (h : NB s acc) (m : Nat) {c : List Nat} (hc : c.Sublist s) : NB s (addC m acc c) := by
  unfold addC
  split
  · exact h
  · rename_i hn
    have hn' : c ∉ acc.1.map (·.1) := fun z => hn (List.contains_iff_mem.mpr z)
    refine ⟨?_, fun t ht => ?_, ?_⟩
    · rw [List.map_append, List.nodup_append]
      refine ⟨h.nd, by simp, fun a ha b hb => ?_⟩
      have e : b = c := by simpa using hb
      subst e
      exact fun z => hn' (z ▸ ha)
    · rw [List.map_append] at ht
      rcases List.mem_append.mp ht with z | z
      · exact h.sub t z
      · have e : t = c := by simpa using z
        rw [e]
        exact hc
    · have := h.le
      simp
      omega
theorem NB.fold {s : List Nat} (m : Nat) : ∀ (cs : List (List Nat)) {acc : Kvs × List (List Nat)}, NB s acc → (∀ c ∈ cs, c.Sublist s) → NB s (cs.foldl (addC m) acc)
  | [], _, h, _ => h
  | c :: cs, _, h, hc => NB.fold m cs (h.step m (hc c List.mem_cons_self)) fun d hd => hc d (List.mem_cons_of_mem _ hd)
/-- the dict at F and the list at Fr hold acc -/
def HoldA (F Fr : Addr) (acc : Kvs × List (List Nat)) (H : Hp) : Prop := H F = some (.dT (kvN acc.1)) ∧ ∃ ys, H Fr = some (.lst ys) ∧ Paired (Ppl H) ys acc.2
theorem HoldA.same {F Fr : Addr} {acc : Kvs × List (List Nat)} {H H' : Hp} (h : HoldA F Fr acc H) (e : Same H H') : HoldA F Fr acc H' := by
  obtain ⟨h1, ys, h2, h3⟩ := h
  exact ⟨e _ _ h1, ys, e _ _ h2, paired_mono (fun _ _ => Ppl.mono (tup_of e)) h3⟩
section
variable {P : Program} {w : World} {K : PySem.W.Frag} {mg : Str → Option Value} {base : Heap}
def spReachedFrom : Sp := fun vs H Q _ => ∃ v p w s, vs = [v, p] ∧ WebAt H v w ∧ WebOk w ∧ Ppl H p s ∧ SetOk w.length s ∧ ∀ F kvs H', Same H H' → H F = none → RF w s kvs → H' F = some (.dT (kvN kvs)) → Q (.ref F) H'
theorem scReachedFrom : FnScope ["web", "standing", "found", "last", "many", "fresh", "here", "person", "there"] ["web", "standing"] (defScope sReachedFrom) := ⟨rfl, rfl, rfl, by decide +kernel, rfl, by decide +kernel, by decide +kernel⟩
theorem ok_reached_from (F : FnD K mg "reached_from" sReachedFrom) (B : Bt mg) (g_movers_in : Fnc P w K mg base CX0 "movers_in" 1 ["web", "standing"] spMoversIn) (g_call_in : Fnc P w K mg base CX0 "call_in" 1 ["web", "standing", "person"] spCallIn) :
    Fnc P w K mg base CX0 "reached_from" 2 ["web", "standing"] spReachedFrom := by
  refine fnc0 F scReachedFrom (fun vs H Q E h => ?_) (fun _ _ _ _ _ _ us hl => match us, hl with | [_, _], _ => rfl) (fun f cdv A outer s H vs Q E hr h => ?_)
  · obtain ⟨v, p, w, s, rfl, _⟩ := h
    rfl
  · obtain ⟨v, p, w, so, rfl, hv, W, ⟨b, rfl, hb⟩, O, k⟩ := h
    have hsl := SetOk.len O
    have hW := W.le
    have hs7 : so.length ≤ 7 := by omega
    refine ⟨_, (pss_cons (ps_par3 (i := 2) (j := 3) (l := 4) rfl scReachedFrom.nd rfl rfl rfl (by decide) (by decide) (by decide) rfl rfl rfl (pa_cons (pe_disp1 (hu_of hr) (pv 1) pe_int) (pa_cons (pe_lst (pa_cons (pv 1) pa_nil)) (pa_cons pe_int pa_nil))) (by rfl))
      (pss_cons (ps_while PassesOwn.never (pt_cmpR (r := rNeD K) (op_neD hr.units) (pv 3) (pe_lst pa_nil) (nomark _)) (pss_cons (ps_aug (i := 4) scReachedFrom.nd rfl (Or.inl rfl) pe_int ip_add)
      (pss_cons (ps_set (i := 5) scReachedFrom.nd rfl (Or.inl rfl) (pe_lst pa_nil))
      (pss_cons (ps_for PassesOwn.never rfl (pi_list (pv 3)) (pg_name (i := 6) scReachedFrom.nd rfl (Or.inl rfl)) (pss_one (ps_for PassesOwn.never rfl (pi_list (pe_fn (g_movers_in.mono (by decide)) hr (pa_cons (pv 0) (pa_cons (pv 6) pa_nil)))) (pg_name (i := 7) scReachedFrom.nd rfl (Or.inl rfl)) (pss_cons (ps_set (i := 8) scReachedFrom.nd rfl (Or.inl rfl) (pe_fn (g_call_in.mono (by decide)) hr (pa_cons (pv 0) (pa_cons (pv 6) (pa_cons (pv 7) pa_nil)))))
      (pss_one (ps_if (pt_cmp (pc_dnotin (hu_of hr) (pv 8) (pv 2))) (pss_cons (ps_dput (hu_of hr) (pv 2) (pv 8) (pv 4) (by rfl))
      (pss_one (ps_expr (pe_bm PySem.F.plainAttrs_list PySem.F.slot_list_append PySem.F.type_list_append mt_append (pv 5) (pa_cons (pv 8) pa_nil))))) pss_nil))))))
      (pss_one (ps_set (i := 3) scReachedFrom.nd rfl (Or.inl rfl) (pv 5)))))))
      (pss_one (ps_ret (pv 2))))), ?_⟩
    refine un_seq fun F hF => ⟨_, rfl, _, _, rfl, upd_same, keyN so, b, rfl, by rw [keyN_kV]; exact same_new hF _ _ hb, _, rfl, by show 1 ≤ sizeLine; decide, fun L hL => ⟨_, _, _, rfl, ?_⟩⟩
    have e0 : Same H (upd (upd (upd H F (.dT [])) F (.dT [(keyN so, .int 0)])) L (.lst [.ref b])) := (same_but hF (same_new hF)).trans (same_new hL)
    refine un_seq (while_by (fun σ H' => ∃ kvs last m L xs u5 u6 u7 u8, σ = [some v, some (.ref b), some (.ref F), some (.ref L), some (nv m), u5, u6, u7, u8] ∧ Same H H' ∧ H' F = some (.dT (kvN kvs)) ∧ H' L = some (.lst xs) ∧ Paired (Ppl H') xs last ∧ BInv w so kvs last m) (fun σ _ => match σ[4]? with | some (some (V.int i)) => so.length + 1 - i.toNat | _ => 0)
      ⟨[(so, 0)], [so], 0, L, [.ref b], none, none, none, none, rfl, e0, same_new hL _ _ upd_same, upd_same, .cons ⟨b, rfl, e0 _ _ hb⟩ .nil, binv_start w so⟩ (fun σ H1 p => ?_) (fun σ H1 Q1 Q2 hm q => ?_))
    rotate_left
    · obtain ⟨x, h1, h2, h3⟩ := q
      refine ⟨x, h1, h2, fun p hp => ?_⟩
      obtain ⟨d, e, a1, a2, a3, a4, kk, a5, a6⟩ := h3 p hp
      exact ⟨d, e, a1, a2, a3, a4, kk, a5, hm _ _ a6⟩
    obtain ⟨kvs, last, m, L, xs, u5, u6, u7, u8, rfl, e1, hF1, hL1, hp1, bi⟩ := p
    refine ⟨_, rfl, Nat.zero_le _, fun q hq => rNe_lstT (l := last) (m := []) ⟨L, xs, rfl, same_new hq _ _ hL1, paired_mono (fun _ _ => Ppl.mono (tup_of (same_new hq))) hp1⟩ ⟨q, [], rfl, upd_same, .nil⟩ ⟨_, rfl, br rfl (fun h => ?_) (fun h => ?_)⟩⟩
    rotate_left
    · have hl : last = [] := by simpa using h
      subst hl
      have e2 := same_new (o := .lst []) hq
      exact ⟨_, rfl, k F kvs _ (e1.trans e2) hF (binv_end O.asc bi) (e2 _ _ hF1)⟩
    have hne : last ≠ [] := by simpa using h
    have hm := bi.many_le O.asc hne
    refine un_seq ⟨_, rfl, (m : Int), 1, rfl, rfl, un_seq ⟨Nat.zero_le _, fun Fr hFr => ?_⟩⟩
    have e2 : Same H1 (upd (upd H1 q (.lst [])) Fr (.lst [])) := (same_new hq).trans (same_new hFr)
    have hLF : L ≠ Fr := ne_of_none (same_new hq _ _ hL1) hFr
    have hFrH : H Fr = none := none_of (e1.trans (same_new hq)) hFr
    have nb0 : NB so (kvs, []) := ⟨bi.nd, fun t ht => by
      obtain ⟨d, _, hd⟩ := bi.key.mp ht
      exact ((least_dist O.asc).mp hd).rch.sub, Nat.zero_le _⟩
    have lsub : ∀ t ∈ last, t.Sublist so := fun t ht => ((least_dist O.asc).mp ((bi.last t).mp ht)).rch.sub
    have nsub : ∀ l : List (List Nat), (∀ t ∈ l, t.Sublist so) → ∀ c ∈ l.flatMap (nexts w), c.Sublist so := fun l hl c hc => by
      obtain ⟨t, h1, h2⟩ := List.mem_flatMap.mp hc
      obtain ⟨p, _, rfl⟩ := List.mem_map.mp h2
      exact (callIn_sub w t p).trans (hl t h1)
    refine un_seq ⟨_, rfl, L, rfl, ⟨_, SqL.of (e2 _ _ hL1)⟩, for_list (xs := xs) (fun i σ H' => ∃ u6 u7 u8, σ = [some v, some (.ref b), some (.ref F), some (.ref L), some (.int ((m : Int) + 1)), some (.ref Fr), u6, u7, u8] ∧ Same H H' ∧ H' L = some (.lst xs) ∧ Paired (Ppl H') xs last ∧ HoldA F Fr (((last.take i).flatMap (nexts w)).foldl (addC (m + 1)) (kvs, [])) H')
      ⟨_, _, _, rfl, e1.trans e2, e2 _ _ hL1, paired_mono (fun _ _ => Ppl.mono (tup_of e2)) hp1, e2 _ _ hF1, [], upd_same, .nil⟩ (fun i σ H' _ p => ?_) (fun i x σ H4 hx p => ?_) (fun σ H4 p => ?_)⟩
    · obtain ⟨_, _, _, _, _, h1, _⟩ := p
      exact SqL.of h1
    · obtain ⟨u6, u7, u8, rfl, e4, hL4, hp4, ha4⟩ := p
      obtain ⟨here, hh, hpx⟩ := paired_at hp4 hx
      have hsub := lsub here (List.mem_of_getElem? hh)
      have hhl := hsub.length_le
      have nb4 : NB so (((last.take i).flatMap (nexts w)).foldl (addC (m + 1)) (kvs, [])) := NB.fold _ _ nb0 (nsub _ fun t ht => lsub t (List.mem_of_mem_take ht))
      generalize hac : ((last.take i).flatMap (nexts w)).foldl (addC (m + 1)) (kvs, []) = ac at ha4 nb4
      refine ⟨_, rfl, _, rfl, v, x, w, here, rfl, hv.mono (tup_of e4), W, hpx, fun y hy => O.lt y (hsub.subset hy), by omega, fun Dm H5 hDm e5 hDm5 => ⟨Dm, rfl, ⟨_, SqL.of hDm5⟩, for_list (xs := tv (moversIn w here)) (fun j σ H' => ∃ u7 u8, σ = [some v, some (.ref b), some (.ref F), some (.ref L), some (.int ((m : Int) + 1)), some (.ref Fr), some x, u7, u8] ∧ Same H H' ∧ H' L = some (.lst xs) ∧ Paired (Ppl H') xs last ∧ H' Dm = some (.lst (tv (moversIn w here))) ∧ HoldA F Fr ((((moversIn w here).take j).map (callIn w here)).foldl (addC (m + 1)) ac) H' ∧ Ppl H' x here)
        ⟨_, _, rfl, e4.trans e5, e5 _ _ hL4, paired_mono (fun _ _ => Ppl.mono (tup_of e5)) hp4, hDm5, ha4.same e5, hpx.mono (tup_of e5)⟩ (fun j σ H' _ p => ?_) (fun j y σ H6 hy p => ?_) (fun σ H6 p => ?_)⟩⟩
      · obtain ⟨_, _, _, _, _, _, h1, _⟩ := p
        exact SqL.of h1
      · obtain ⟨u7, u8, rfl, e6, hL6, hp6, hD6, ha6, hpx6⟩ := p
        obtain ⟨c, hc, rfl⟩ := tv_get hy
        have hcm : c ∈ here := (List.mem_filter.mp (List.mem_of_getElem? hc)).1
        have nb6 : NB so ((((moversIn w here).take j).map (callIn w here)).foldl (addC (m + 1)) ac) := NB.fold _ _ nb4 fun t ht => by
          obtain ⟨p, _, rfl⟩ := List.mem_map.mp ht
          exact (callIn_sub w here p).trans hsub
        have nx6 : (((moversIn w here).take (j + 1)).map (callIn w here)).foldl (addC (m + 1)) ac = addC (m + 1) ((((moversIn w here).take j).map (callIn w here)).foldl (addC (m + 1)) ac) (callIn w here c) := by
          rw [take_snoc hc, List.map_append, List.foldl_append]
          rfl
        generalize hac2 : (((moversIn w here).take j).map (callIn w here)).foldl (addC (m + 1)) ac = ac2 at ha6 nb6 nx6
        have l6 := nb6.len hs7
        have l6b := nb6.le
        refine un_seq ⟨_, rfl, _, rfl, _, rfl, v, x, w, here, c, rfl, hv.mono (tup_of e6), O.lt c (hsub.subset hcm), hpx6, by omega, fun t H7 e7 ht => ?_⟩
        obtain ⟨tb, rfl, htb⟩ := ht
        obtain ⟨hF7, ys, hFr7, hys7⟩ := ha6.same e7
        have hFF : Fr ≠ F := fun z => by
          rw [z, hF7] at hFr7
          cases hFr7
        have hlF : L ≠ F := fun z => by
          have q := e7 _ _ hL6
          rw [z, hF7] at q
          cases q
        have hDF : Dm ≠ F := fun z => by
          have q := e7 _ _ hD6
          rw [z, hF7] at q
          cases q
        have hDFr : Dm ≠ Fr := fun z => by
          obtain ⟨_, ys4, q, _⟩ := ha4
          rw [z, q] at hDm
          cases hDm
        refine ⟨_, rfl, _, rfl, F, _, rfl, DGet.t hF7 (by rw [keyN_kV]; exact htb), _, rfl, br (c := !((ac2.1.map (·.1)).contains (callIn w here c))) (by rw [kvN_has]) (fun h => ?_) (fun h => ?_)⟩
        · have h2 : (ac2.1.map (·.1)).contains (callIn w here c) = false := by simpa using h
          have hputl : (kvN ac2.1).length < sizeLine := by
            rw [List.length_map, sizeLine_eq]
            omega
          refine un_seq ⟨_, rfl, _, rfl, _, rfl, F, _, rfl, DPut.t hF7 (by rw [keyN_kV]; exact htb) hputl, ?_⟩
          have lys := paired_len hys7
          have hFr8 : (upd H7 F (.dT (putK (kvN ac2.1) (keyN (callIn w here c)) (.int ((m : Int) + 1))))) Fr = some (.lst ys) := by
            rw [upd_ne hFF]
            exact hFr7
          have tu1 : Tup H7 (upd H7 F (.dT (putK (kvN ac2.1) (keyN (callIn w here c)) (.int ((m : Int) + 1))))) := tup_upd hF7 (fun _ z => by cases z)
          have tu2 : Tup (upd H7 F (.dT (putK (kvN ac2.1) (keyN (callIn w here c)) (.int ((m : Int) + 1))))) (upd (upd H7 F (.dT (putK (kvN ac2.1) (keyN (callIn w here c)) (.int ((m : Int) + 1))))) Fr (.lst (ys ++ [.ref tb]))) := tup_upd hFr8 (fun _ z => by cases z)
          have tu := ((tup_of e7).trans tu1).trans tu2
          refine ⟨_, rfl, .inl ⟨rfl, _, SqL.of hFr8⟩, _, rfl, Fr, ys, _, rfl, rfl, hFr8, by rw [sizeLine_eq]; omega, ?_⟩
          refine ⟨_, _, rfl, fun a o q => ?_, ?_, paired_mono (fun _ _ => Ppl.mono tu) hp6, ?_, ⟨?_, ys ++ [.ref tb], upd_same, ?_⟩, hpx6.mono tu⟩
          · rw [upd_ne (ne_of_none q hFrH), upd_ne (ne_of_none q hF)]
            exact e7 _ _ (e6 _ _ q)
          · rw [upd_ne hLF, upd_ne hlF]
            exact e7 _ _ hL6
          · rw [upd_ne hDFr, upd_ne hDF]
            exact e7 _ _ hD6
          · rw [upd_ne (Ne.symm hFF), upd_same, nx6]
            unfold addC
            rw [if_neg (by rw [h2]; exact Bool.false_ne_true)]
            exact congrArg (fun z => some (HO.dT z)) (kvN_put (m := m + 1) h2)
          · rw [nx6]
            unfold addC
            rw [if_neg (by rw [h2]; exact Bool.false_ne_true)]
            exact paired_snoc (R := Ppl _) ⟨tb, rfl, tu2 _ _ (tu1 _ _ htb)⟩ (paired_mono (fun _ _ => Ppl.mono (tu1.trans tu2)) hys7)
        · have h2 : (ac2.1.map (·.1)).contains (callIn w here c) = true := by simpa using h
          refine ⟨_, _, rfl, e6.trans e7, e7 _ _ hL6, paired_mono (fun _ _ => Ppl.mono (tup_of e7)) hp6, e7 _ _ hD6, ?_, hpx6.mono (tup_of e7)⟩
          rw [nx6]
          unfold addC
          rw [if_pos h2]
          exact ⟨hF7, ys, hFr7, hys7⟩
      · obtain ⟨u7, u8, rfl, e6, hL6, hp6, hD6, ha6, hpx6⟩ := p
        rw [List.length_map, List.take_length] at ha6
        refine ⟨_, _, _, rfl, e6, hL6, hp6, ?_⟩
        rw [take_snoc hh, List.flatMap_append, List.foldl_append, hac, List.flatMap_cons, List.flatMap_nil, List.append_nil]
        exact ha6
    · obtain ⟨u6, u7, u8, rfl, e4, hL4, hp4, hF4, ys, hFr4, hys4⟩ := p
      have hxl := paired_len hp1
      rw [hxl, List.take_length] at hF4 hys4
      refine ⟨_, rfl, ⟨_, _, m + 1, Fr, ys, _, _, _, _, rfl, e4, hF4, hFr4, hys4, binv_step bi⟩, ?_⟩
      show so.length + 1 - ((m : Int) + 1).toNat < so.length + 1 - (m : Int).toNat
      omega
end
end Ts



set_option Elab.async false
set_option linter.all false
set_option maxRecDepth 100000
set_option maxHeartbeats 4000000
namespace Ts
open PySem PySem.Spec PyProof.Rows L2 Tm
section
variable {β : Type} {S : Hp → V → β → Prop} {g : TG} {tt : TT} {te td : TE} {vs : List Nat} {σ : L2.St} {H : Hp} {Q : VK} {PL : Kvs → Prop}
/-- td gives a dict of sets -/
abbrev KvSrc (PL : Kvs → Prop) (td : TE) (σ : L2.St) (H : Hp) : Prop := ∀ C : VK, (∀ l F H1, PL l → Same H H1 → H F = none → H1 F = some (.dT (kvN l)) → C (.ref F) H1) → td σ H C
theorem rd_lcI (p : List Nat × Nat → Bool) (f : List Nat × Nat → β) (hs : KvSrc PL td σ H) (hl : ∀ l, PL l → l.length ≤ 100000) (hS : ∀ H H' v b, Tup H H' → S H v b → S H' v b)
    (turn : ∀ l, PL l → ∀ (T b : Addr) (q : List Nat × Nat) (H2 : Hp) (N : Hp → Prop) (Kt : VK), q ∈ l → Same H H2 → H2 T = some (.tup [.ref b, nv q.2]) → H2 b = some (.tup (tv q.1)) → (p q = false → ∀ H3, Same H2 H3 → N H3) → (p q = true → ∀ y H3, Same H2 H3 → S H3 y (f q) → Kt y H3) → TurnOk g tt te vs σ (.ref T) H2 N Kt)
    (fin : ∀ l, PL l → LcFin S ((l.filter p).map f) H Q) : tLc (iItemsT td) g tt te vs σ H Q :=
  hs _ fun l F H1 pl e hn hF => ⟨F, kvN l, rfl, hF, fun o => mapI p f upd_same (hl l pl) hS (fun T b q H2 N Kt hq e2 => turn l pl T b q H2 N Kt hq ((same_but hn e).trans e2)) (fun D ys H2 _ e2 => fin l pl D ys H2 ((same_but hn e).trans e2))⟩
theorem rd_lcK (p : List Nat × Nat → Bool) (f : List Nat × Nat → β) (hs : KvSrc PL td σ H) (hl : ∀ l, PL l → l.length ≤ 100000) (hS : ∀ H H' v b, Tup H H' → S H v b → S H' v b)
    (turn : ∀ l, PL l → ∀ (b : Addr) (q : List Nat × Nat) (H2 : Hp) (N : Hp → Prop) (Kt : VK), q ∈ l → Same H H2 → H2 b = some (.tup (tv q.1)) → (p q = false → ∀ H3, Same H2 H3 → N H3) → (p q = true → ∀ y H3, Same H2 H3 → S H3 y (f q) → Kt y H3) → TurnOk g tt te vs σ (.ref b) H2 N Kt)
    (fin : ∀ l, PL l → LcFin S ((l.filter p).map f) H Q) : tLc (iKeysT td) g tt te vs σ H Q :=
  hs _ fun l F H1 pl e hn hF => ⟨F, kvN l, rfl, hF, fun o => mapK p f upd_same (hl l pl) hS (fun b q H2 N Kt hq e2 => turn l pl b q H2 N Kt hq ((same_but hn e).trans e2)) (fun D ys H2 _ e2 => fin l pl D ys H2 ((same_but hn e).trans e2))⟩
end
/-- X() -/
theorem pmk_own0 {X : Cx} {C : Addr} {bmB : List Value} {B newId initId : String} {x : Str} {p pos : Pos} (F : ExcBaseFacts B newId initId bmB) (q : PySem.W.excIn X.K C bmB newId = true) (gC : X.mg x = some (.ref C)) (kC : PySem.W.keepIn X.K (.ref C) = true) (r : Raises X (.ref C)) (hg : Gl X x)
    (hdb : (x == ("__debug__" : Str)) = false := by decide) : PMk X (.Call (.Name x p) [] [] pos) (fun _ H Q => Q (.ref C) none H) := by
  intro pins s σ H Q I h
  refine wpAny_Call_Name_kw (ld_glob I hg gC ?_ hdb)
  refine PySem.W.callWith_K0 I.kIn kC ?_
  show wpAny _ _ (call (.ref C) []) _ _ _
  obtain ⟨bm, N, nm, qn, bs, hdct, sn, sub, ab, col, dd, k0, k1, k2, k3, k5, mN, hC, hN, hni, T⟩ := exc_obj I.kIn q
  refine wpAny_call_exc_subT F T hC hN hni (fun h' e hm => ?_) (Nat.zero_le _)
  exact mk_of I hm r h (I.hok.gone hm.new)
/-- the exception NotMade -/
structure NMk (K : PySem.W.Frag) (mg : Str → Option Value) (C : Addr) : Prop where
  gm : mg "NotMade" = some (.ref C)
  ex : PySem.W.excIn K C He.veBase "ValueError.__new__" = true
  kp : PySem.W.keepIn K (.ref C) = true
  sub : PySem.W.subIn K (.ref C) (.type "BaseException") = some true
  ty : PySem.W.typeIn K (.ref C) = some (.type "type")
theorem rf_len {w : Web} {s : List Nat} {l : Kvs} (h : RF w s l) (hs : s.length ≤ 7) : l.length ≤ 128 := by
  have h1 := h.len
  have h2 : 2 ^ s.length ≤ 2 ^ 7 := Nat.pow_le_pow_right (by decide) hs
  omega
section
variable {P : Program} {w : World} {K : PySem.W.Frag} {mg : Str → Option Value} {base : Heap}
def spLeastOf (P : Program) (W : World) (K : PySem.W.Frag) (mg : Str → Option Value) (base : Heap) (C : Addr) : Sp := fun vs H Q E => ∃ v p w s f HV ok fn, vs = [v, p, .ref f] ∧ WebAt H v w ∧ WebOk w ∧ Ppl H p s ∧ SetOk w.length s ∧ PredFn P W K mg base 2 f HV ok fn ∧ Same HV H ∧ (∀ t, Rch w s t → ok t) ∧
  (∀ d H', Same H H' → LeastOf w s fn (some d) → Q (nv d) H') ∧ (LeastOf w s fn none → ∀ H', Same H H' → E (.ref C) none H')
theorem scLeastOf : FnScope ["web", "standing", "fits", "some", "here", "many"] ["web", "standing", "fits"] (defScope sLeastOf) := ⟨rfl, rfl, rfl, by decide +kernel, rfl, by decide +kernel, by decide +kernel⟩
theorem ok_least_of (F : FnD K mg "least_of" sLeastOf) (B : Bt mg) (g_reached_from : Fnc P w K mg base CX0 "reached_from" 2 ["web", "standing"] spReachedFrom) {C : Addr} (NM : NMk K mg C) :
    Fnc P w K mg base (L2.CX P w) "least_of" 3 ["web", "standing", "fits"] (spLeastOf P w K mg base C) := by
  refine fnc_of F scLeastOf (fun vs H Q E h => ?_) (fun _ _ _ _ _ _ us hl => match us, hl with | [_, _, _], _ => rfl) (fun f cdv A outer s H vs Q E hr h => ?_)
  · obtain ⟨v, p, w, s, f, HV, ok, fn, rfl, _⟩ := h
    rfl
  · obtain ⟨v, p, w, so, ff, HV, ok, fn, rfl, hv, W, hs, O, PF, hHV, hok, k, kE⟩ := h
    have hsl := SetOk.len O
    have hW := W.le
    refine ⟨_, (pss_cons (ps_setLc (i := 3) (own := [("here", 4), ("many", 5)]) (g := gTup K 2 (gCons (gName 4) (gCons (gName 5) gNil))) (tt := _) rfl scLeastOf.nd rfl rfl (sw_true rfl rfl rfl rfl) (pi_itemsT (pe_fn (g_reached_from.mono (by decide)) hr (pa_cons (pv 0) (pa_cons (pv 1) pa_nil)))) (blkOk_by (N := ["web", "standing", "fits", "some", "here", "many"]) (sc := (defScope sLeastOf)) (by decide +kernel)) (fun _ _ _ _ _ => (pg_tup rfl (pgs_cons (pg_name (i := 4) scLeastOf.nd rfl (Or.inl rfl)) (pgs_cons (pg_name (i := 5) scLeastOf.nd rfl (Or.inl rfl)) pgs_nil)))) (fun _ _ _ _ _ => pts_one (pt_val (pe_predK P _ K mg base (k := 2) (i := 2) hr (pv 4)))) (fun _ _ _ _ _ => (pv 5)))
      (pss_cons (ps_if (pt_cmpR (r := rEqD K) (op_eqD hr.units) (pv 3) (pe_lst pa_nil) (nomark _)) (pss_one (ps_raise rfl (takes_of rfl rfl rfl rfl) (pmk_own0 PySem.F.excBase_ValueError NM.ex NM.gm NM.kp (raises_own NM.sub NM.ty) (by rfl)))) pss_nil)
      (pss_one (ps_ret (pe_callB (r := rMin K) (cr_min rfl) (by rfl) B.min boot_min (pa_cons (pv 3) pa_nil)))))), ?_⟩
    refine un_seq (un_asg (rd_lcI (S := NI) (PL := RF w so) (fun q => fn q.1) (fun q => q.2) (fun C kq => ⟨_, rfl, _, rfl, v, p, w, so, rfl, hv, W, hs, O, fun F kvs H1 e1 hn hR hF => kq kvs F H1 hR e1 hn hF⟩) (fun l hl => by have := rf_len hl (by omega); omega) ni_up (fun l hl T b q H2 N Kt hq e2 hT hb2 kn ky => ?_) (fun l hl D ys H2 e2 hD hys => ?_)))
    · refine ⟨T, _, rfl, SqT.of hT, rfl, _, _, rfl, _, _, rfl, rfl, rfl, ?_⟩
      refine ⟨ff, HV, ok, fn, rfl, PF, hHV.trans e2, _, rfl, b, q.1, rfl, hHV.trans e2, hb2, hok _ ((hl.mem q.1 q.2).mp hq).rch, fun H3 e3 => ⟨_, rfl, br rfl (fun h => ?_) (fun h => ?_)⟩⟩
      · exact ⟨_, rfl, ky h _ _ e3 rfl⟩
      · exact kn h _ e3
    · have e : ys = tv ((l.filter fun q => fn q.1).map fun q => q.2) := by
        rw [paired_eq nv hys]
      subst e
      refine un_seq ⟨_, rfl, Nat.zero_le _, fun eq heq => rEq_lst (ms := []) (same_new heq _ _ hD) upd_same ⟨_, rfl, br rfl (fun h => ?_) (fun h => ?_)⟩⟩
      · have h2 : (l.filter fun q => fn q.1) = [] := List.map_eq_nil_iff.mp (of_decide_eq_true h)
        refine kE (fun t ht => ?_) _ (e2.trans (same_new heq))
        obtain ⟨d, hd⟩ := ht.dist O.asc
        have q := List.filter_eq_nil_iff.mp h2 (t, d) ((hl.mem t d).mpr hd)
        cases z : fn t with
        | false => rfl
        | true => exact absurd z q
      · have h2 : (l.filter fun q => fn q.1).map (fun q => q.2) ≠ [] := of_decide_eq_false h
        refine ⟨_, rfl, D, cI ((l.filter fun q => fn q.1).map fun q => q.2), rfl, SqL.of (by rw [cI_tv]; exact same_new heq _ _ hD), by rw [List.length_map]; exact List.length_pos_iff.mpr h2, fun m hm hmin => ?_⟩
        obtain ⟨d, hd, rfl⟩ := List.mem_map.mp hm
        obtain ⟨q, hq, rfl⟩ := List.mem_map.mp hd
        obtain ⟨hq1, hq2⟩ := List.mem_filter.mp hq
        refine k q.2 _ (e2.trans (same_new heq)) ⟨⟨q.1, (hl.mem q.1 q.2).mp hq1, hq2⟩, fun t e ht hf => ?_⟩
        have := hmin _ (List.mem_map.mpr ⟨e, List.mem_map.mpr ⟨(t, e), List.mem_filter.mpr ⟨(hl.mem t e).mpr ht, hf⟩, rfl⟩, rfl⟩)
        omega
end
end Ts



set_option Elab.async false
set_option linter.all false
set_option maxRecDepth 100000
set_option maxHeartbeats 4000000
namespace Ts
open PySem PySem.Spec PyProof.Rows L2 Tm
open LamX
/-- the code object c of the def x and its table at P -/
structure Mkr (base : Heap) (mg : Str → Option Value) (T : List (Addr × Str)) (x : Str) (c P : Addr) : Prop where
  tb : TabB base mg c P
  mem : (P, (x ++ ".<locals>.") ++ "<lambda>") ∈ T
  uniq : ∀ p ∈ T, p.1 = P → p.2 = (x ++ ".<locals>.") ++ "<lambda>"
/-- a def whose code object is c -/
structure FnDC (K : PySem.W.Frag) (mg : Str → Option Value) (x : Str) (st : Stmt) (c : Addr) : Prop where
  ex : ∃ f fd, FnP K x st f fd ∧ mg x = some (.ref f) ∧ fd.code = .ref c
theorem fncC_of {P : Program} {w : World} {K : PySem.W.Frag} {mg : Str → Option Value} {base : Heap} {CX : CXT} {x : Str} {st : Stmt} {c : Addr} {N ps : List Str} {k : Nat} {sp : Sp} (F : FnDC K mg x st c) (S : FnScope N ps (defScope st)) (len : ∀ vs H Q E, sp vs H Q E → vs.length = ps.length)
    (hb : ∀ (kV doc pm : Value) (an : Option Addr) (cdv ct : Value) (us : List Value), us.length = ps.length → bindArgs (PySem.W.fnOf x x (defArgs st) (defBody st) (defScope st) .none kV doc pm an cdv ct) ⟨us, []⟩ = pure (ps.zip us))
    (hbody : ∀ (f : Addr) (A : Around) (outer : List Env) (s : Shared) (H : Hp) (vs : List V) (Q : VK) (E : XK), Room k (A.deeper (envOfC x (defScope st) s.heap.objs.size f (.ref c))) → sp vs H Q E →
      ∃ t, PSs (cxOf CX P w K mg base N x (defScope st) f (.ref c) A outer s H E) (defBody st) t ∧ t { nx := fun _ H' => Q .non H', rt := Q } (start N vs) H) : Fnc P w K mg base CX x (k + 1) ps sp := by
  obtain ⟨f, fd, F, hm, hc⟩ := F.ex
  refine ⟨f, fd, ?_, hm, F.kp, F.bindsN hb⟩
  obtain ⟨oc, od, dV, kV, doc, pm, an, cdv, ct, osl, rfl, lk, hcd, _, _⟩ := F.ex
  have e : cdv = .ref c := hc
  subst e
  exact fn_of lk hcd S len fun A outer s H vs Q E hr hsp => hbody f A outer s H vs Q E hr hsp
/-- the scope of the lambda that a def hands on -/
def lamScope (st : Stmt) : Scope := match (defBody st).getLast? with
  | some (.Return (some (.Call _ [_, _, .Lambda _ _ sc _] _ _)) _) => sc
  | _ => defScope st
/-- what a call to least_of comes to, tables told -/
structure Out (T : List (Addr × Str)) (C : Addr) (w : Web) (s : List Nat) (fn : List Nat → Bool) (H : Hp) (Q : VK) (E : XK) : Prop where
  yes : ∀ d H', ExtN H H' → Tabs T H' → LeastOf w s fn (some d) → Q (nv d) H'
  no : LeastOf w s fn none → ∀ H', ExtN H H' → Tabs T H' → E (.ref C) none H'
abbrev okT (w : Web) (t : List Nat) : Prop := (∀ x ∈ t, x < w.length) ∧ t.length ≤ 100
theorem okT_of {w : Web} {s t : List Nat} (O : SetOk w.length s) (hs : s.length ≤ 7) (h : Rch w s t) : okT w t := ⟨fun x hx => O.lt x (h.sub.subset hx), by have := h.sub.length_le; omega⟩
/-- the call to least_of, read -/
theorem rd_least {P : Program} {W : World} {K : PySem.W.Frag} {mg : Str → Option Value} {base : Heap} {C : Addr} {T : List (Addr × Str)} {w : Web} {s : List Nat} {fn : List Nat → Bool} {v p : V} {H H2 : Hp} {Q : VK} {E : XK} {σ : L2.St} {tb : TE} (e : Same H H2) (hv : WebAt H v w) (Wk : WebOk w) (hs : Ppl H p s) (O : SetOk w.length s) (hT : Tabs T H) (k : Out T C w s fn H Q E)
    (h0 : σ[0]? = some (some v)) (h1 : σ[1]? = some (some p)) (hread : ∀ H3, Tup H H3 → LamRead tb σ H3 (okT w) fn) :
    tCallLam P W K mg base (spLeastOf P W K mg base C) E (tVar 0) (tVar 1) T 2 tb σ H2 Q := by
  have hsl := SetOk.len O
  have hW := Wk.le
  refine ⟨_, h0, _, h1, hT.ext e, fun H3 e3 hT3 => ?_⟩
  have t3 : Tup H H3 := fun a xs q => e3 _ _ (e _ _ q) fun ps z => by cases z
  refine ⟨okT w, fn, hread H3 t3, fun f H4 d PF e4 ed => ?_⟩
  have t4 : Tup H H4 := t3.trans (tup_of e4)
  refine ⟨v, p, w, s, f, H4, okT w, fn, rfl, hv.mono t4, Wk, hs.mono t4, O, PF, Same.refl _, fun t ht => okT_of O (by omega) ht, fun dd H5 e5 hL => ?_, fun hL H5 e5 => ?_⟩
  · exact k.yes dd _ (((ExtN.of e).trans e3).trans (ExtN.of (ed H5 e5))) (hT3.ext (ed H5 e5)) hL
  · exact k.no hL _ (((ExtN.of e).trans e3).trans (ExtN.of (ed H5 e5))) (hT3.ext (ed H5 e5))
section
variable {P : Program} {w : World} {K : PySem.W.Frag} {mg : Str → Option Value} {base : Heap}
def spCallsToEnd (T : List (Addr × Str)) (C : Addr) : Sp := fun vs H Q E => ∃ v p w s, vs = [v, p] ∧ WebAt H v w ∧ WebOk w ∧ Ppl H p s ∧ SetOk w.length s ∧ Tabs T H ∧ Out T C w s (fun t => apart w t) H Q E
theorem scCallsToEnd : FnScope ["web", "standing"] ["web", "standing"] (defScope sCallsToEnd) := ⟨rfl, rfl, rfl, by decide +kernel, rfl, by decide +kernel, by decide +kernel⟩
theorem ok_calls_to_end {c Pt C : Addr} {T : List (Addr × Str)} (F : FnDC K mg "calls_to_end" sCallsToEnd c) (B : Bt mg) (M : Mkr base mg T "calls_to_end" c Pt) (g_least_of : Fnc P w K mg base (L2.CX P w) "least_of" 3 ["web", "standing", "fits"] (spLeastOf P w K mg base C)) (g_need_state : Fnc P w K mg base CX0 "need_state" 4 ["web", "standing"] spNeedState) (g_apart_in : Fnc P w K mg base CX0 "apart_in" 1 ["web", "people"] spApartIn) :
    Fnc P w K mg base (L2.CX P w) "calls_to_end" 5 ["web", "standing"] (spCallsToEnd T C) := by
  refine fncC_of F scCallsToEnd (fun vs H Q E h => ?_) (fun _ _ _ _ _ _ us hl => match us, hl with | [_, _], _ => rfl) (fun f A outer s H vs Q E hr h => ?_)
  · obtain ⟨v, p, w, s, rfl, _⟩ := h
    rfl
  · obtain ⟨v, p, w, so, rfl, hv, W, hs, O, hT, k⟩ := h
    refine ⟨_, (pss_cons (ps_expr (pe_fn (g_need_state.mono (by decide)) hr (pa_cons (pv 0) (pa_cons (pv 1) pa_nil))))
      (pss_one (ps_ret (pe_callLam (px := "here") (kb := 1) (g_least_of.mono (by decide)) hr (passes_call (takes_of rfl rfl rfl rfl) (fun _ _ _ _ h => h)) (by rfl) (pv 0) (pv 1) (lamP_by (sc := defScope sCallsToEnd) (by decide +kernel)) (show ("here" : Str) ∉ (["web", "standing"] : List Str) by decide) rfl M.tb rfl M.mem M.uniq rfl (fun _ _ _ _ _ _ => rfl) (fun f c' A outer s H cs hr' => pe_fn (g_apart_in.mono (by decide)) hr' (pa_cons (pv 1) (pa_cons (pv 0) pa_nil))))))), ?_⟩
    refine un_seq ⟨_, rfl, _, rfl, v, p, w, so, rfl, hv, W, hs, O, fun H1 e1 => ?_⟩
    refine rd_least e1 hv W hs O hT k rfl rfl fun H3 t3 HZ a t Q' eZ ha ht hq => ?_
    exact ⟨_, rfl, _, rfl, v, _, w, t, rfl, hv.mono (t3.trans (tup_of eZ)), ⟨a, rfl, ha⟩, ht.1, ht.2, hq⟩
def spCallsToSit (T : List (Addr × Str)) (C : Addr) : Sp := fun vs H Q E => ∃ v p w s x, vs = [v, p, nv x] ∧ WebAt H v w ∧ WebOk w ∧ Ppl H p s ∧ SetOk w.length s ∧ x < w.length ∧ Tabs T H ∧ Out T C w s (fun t => !t.contains x) H Q E
theorem scCallsToSit : FnScope ["web", "standing", "person"] ["web", "standing", "person"] (defScope sCallsToSit) := ⟨rfl, rfl, rfl, by decide +kernel, rfl, by decide +kernel, by decide +kernel⟩
theorem ok_calls_to_sit {c Pt C : Addr} {T : List (Addr × Str)} (F : FnDC K mg "calls_to_sit" sCallsToSit c) (B : Bt mg) (M : Mkr base mg T "calls_to_sit" c Pt) (g_least_of : Fnc P w K mg base (L2.CX P w) "least_of" 3 ["web", "standing", "fits"] (spLeastOf P w K mg base C)) (g_need_state : Fnc P w K mg base CX0 "need_state" 4 ["web", "standing"] spNeedState) (g_need_person : Fnc P w K mg base CX0 "need_person" 3 ["web", "person"] spNeedPerson) :
    Fnc P w K mg base (L2.CX P w) "calls_to_sit" 5 ["web", "standing", "person"] (spCallsToSit T C) := by
  refine fncC_of F scCallsToSit (fun vs H Q E h => ?_) (fun _ _ _ _ _ _ us hl => match us, hl with | [_, _, _], _ => rfl) (fun f A outer s H vs Q E hr h => ?_)
  · obtain ⟨v, p, w, s, x, rfl, _⟩ := h
    rfl
  · obtain ⟨v, p, w, so, x, rfl, hv, W, hs, O, hx, hT, k⟩ := h
    refine ⟨_, (pss_cons (ps_expr (pe_fn (g_need_state.mono (by decide)) hr (pa_cons (pv 0) (pa_cons (pv 1) pa_nil))))
      (pss_cons (ps_expr (pe_fn (g_need_person.mono (by decide)) hr (pa_cons (pv 0) (pa_cons (pv 2) pa_nil))))
      (pss_one (ps_ret (pe_callLam (px := "here") (kb := 1) (g_least_of.mono (by decide)) hr (passes_call (takes_of rfl rfl rfl rfl) (fun _ _ _ _ h => h)) (by rfl) (pv 0) (pv 1) (lamP_by (sc := defScope sCallsToSit) (by decide +kernel)) (show ("here" : Str) ∉ (["web", "standing", "person"] : List Str) by decide) rfl M.tb rfl M.mem M.uniq rfl (fun _ _ _ _ _ _ => rfl) (fun f c' A outer s H cs hr' => pe_cmpR (r := rIn K true) op_notIn_seq (pv 3) (pv 0) rfl)))))), ?_⟩
    refine un_seq ⟨_, rfl, _, rfl, v, p, w, so, rfl, hv, W, hs, O, fun H1 e1 => ?_⟩
    refine un_seq ⟨_, rfl, _, rfl, v, w, x, rfl, hv.mono (tup_of e1), hx, fun H2 e2 => ?_⟩
    refine rd_least (e1.trans e2) hv W hs O hT k rfl rfl fun H3 t3 HZ a t Q' eZ ha ht hq => ?_
    exact ⟨_, rfl, _, rfl, rNotIn_nat ha (hq HZ (Same.refl _))⟩
def spCallsToSitAll (T : List (Addr × Str)) (C : Addr) : Sp := fun vs H Q E => ∃ v p w s px ps, vs = [v, p, px] ∧ WebAt H v w ∧ WebOk w ∧ Ppl H p s ∧ SetOk w.length s ∧ Ppl H px ps ∧ SetOk w.length ps ∧ Tabs T H ∧ Out T C w s (fun t => !(ps.any fun q => t.contains q)) H Q E
theorem scCallsToSitAll : FnScope ["web", "standing", "people", "person"] ["web", "standing", "people"] (defScope sCallsToSitAll) := ⟨rfl, rfl, rfl, by decide +kernel, rfl, by decide +kernel, by decide +kernel⟩
theorem ok_calls_to_sit_all {c Pt C : Addr} {T : List (Addr × Str)} (F : FnDC K mg "calls_to_sit_all" sCallsToSitAll c) (B : Bt mg) (M : Mkr base mg T "calls_to_sit_all" c Pt) (g_least_of : Fnc P w K mg base (L2.CX P w) "least_of" 3 ["web", "standing", "fits"] (spLeastOf P w K mg base C)) (g_need_state : Fnc P w K mg base CX0 "need_state" 4 ["web", "standing"] spNeedState) (g_need_people : Fnc P w K mg base CX0 "need_people" 4 ["web", "people"] spNeedPeople) :
    Fnc P w K mg base (L2.CX P w) "calls_to_sit_all" 5 ["web", "standing", "people"] (spCallsToSitAll T C) := by
  refine fncC_of F scCallsToSitAll (fun vs H Q E h => ?_) (fun _ _ _ _ _ _ us hl => match us, hl with | [_, _, _], _ => rfl) (fun f A outer s H vs Q E hr h => ?_)
  · obtain ⟨v, p, w, s, px, ps, rfl, _⟩ := h
    rfl
  · obtain ⟨v, p, w, so, px, ps, rfl, hv, W, hs, O, hps, OP, hT, k⟩ := h
    refine ⟨_, (pss_cons (ps_expr (pe_fn (g_need_state.mono (by decide)) hr (pa_cons (pv 0) (pa_cons (pv 1) pa_nil))))
      (pss_cons (ps_expr (pe_fn (g_need_people.mono (by decide)) hr (pa_cons (pv 0) (pa_cons (pv 2) pa_nil))))
      (pss_one (ps_ret (pe_callLam (px := "here") (kb := 1) (g_least_of.mono (by decide)) hr (passes_call (takes_of rfl rfl rfl rfl) (fun _ _ _ _ h => h)) (by rfl) (pv 0) (pv 1) (lamP_by (sc := defScope sCallsToSitAll) (by decide +kernel)) (show ("here" : Str) ∉ (["web", "standing", "people", "person"] : List Str) by decide) rfl M.tb rfl M.mem M.uniq rfl (fun _ _ _ _ _ _ => rfl) (fun f c' A outer s H cs hr' => pe_not (pe_callB (r := rAny K) (cr_any rfl) (by rfl) B.any boot_any (pa_cons (pe_lc (wi := iTup K _) (own := [("person", 4)]) (g := gName 4) (tt := tYes) rfl (show ("here" :: ["web", "standing", "people", "person"] : List Str).Nodup by decide) (pi_tup (pv 3)) (blkOk_by (N := ["here", "web", "standing", "people", "person"]) (sc := lamScope sCallsToSitAll) (by decide +kernel)) (fun _ _ _ _ _ => pg_name (i := 4) (show ("here" :: ["web", "standing", "people", "person"] : List Str).Nodup by decide) rfl (Or.inl rfl)) (fun _ _ _ _ _ => pts_nil) (fun _ _ _ _ _ => pe_cmpR (r := rIn K false) op_in_seq (pv 4) (pv 0) rfl)) pa_nil)))))))), ?_⟩
    refine un_seq ⟨_, rfl, _, rfl, v, p, w, so, rfl, hv, W, hs, O, fun H1 e1 => ?_⟩
    refine un_seq ⟨_, rfl, _, rfl, v, px, w, ps, rfl, hv.mono (tup_of e1), hps.mono (tup_of e1), OP, W.le, fun H2 e2 => ?_⟩
    have hpl := SetOk.len OP
    have hW := W.le
    refine rd_least (e1.trans e2) hv W hs O hT k rfl rfl fun H3 t3 HZ a t Q' eZ ha ht hq => ?_
    obtain ⟨pb, rfl, hpb⟩ := hps
    refine rd_anyT (R := NI) (l := ps) (fun q => t.contains q) (src_ppl (by rfl) ((t3.trans (tup_of eZ)) _ _ hpb)) (by omega) ni_up (fun x o H4 ho e4 r Kt kt => ?_) (fun H4 e4 => ⟨_, rfl, hq H4 e4⟩)
    obtain rfl : x = nv o := r
    exact ⟨rfl, _, rfl, _, rfl, rIn_nat (e4 _ _ ha) (kt H4 (Same.refl _))⟩
def spCallsToAlone (T : List (Addr × Str)) (C : Addr) : Sp := fun vs H Q E => ∃ v p w s x, vs = [v, p, nv x] ∧ WebAt H v w ∧ WebOk w ∧ Ppl H p s ∧ SetOk w.length s ∧ x < w.length ∧ Tabs T H ∧ Out T C w s (fun t => t.contains x && !((fr w x).any fun q => t.contains q)) H Q E
theorem scCallsToAlone : FnScope ["web", "standing", "person", "one"] ["web", "standing", "person"] (defScope sCallsToAlone) := ⟨rfl, rfl, rfl, by decide +kernel, rfl, by decide +kernel, by decide +kernel⟩
theorem ok_calls_to_alone {c Pt C : Addr} {T : List (Addr × Str)} (F : FnDC K mg "calls_to_alone" sCallsToAlone c) (B : Bt mg) (M : Mkr base mg T "calls_to_alone" c Pt) (g_least_of : Fnc P w K mg base (L2.CX P w) "least_of" 3 ["web", "standing", "fits"] (spLeastOf P w K mg base C)) (g_need_state : Fnc P w K mg base CX0 "need_state" 4 ["web", "standing"] spNeedState) (g_need_person : Fnc P w K mg base CX0 "need_person" 3 ["web", "person"] spNeedPerson) :
    Fnc P w K mg base (L2.CX P w) "calls_to_alone" 5 ["web", "standing", "person"] (spCallsToAlone T C) := by
  refine fncC_of F scCallsToAlone (fun vs H Q E h => ?_) (fun _ _ _ _ _ _ us hl => match us, hl with | [_, _, _], _ => rfl) (fun f A outer s H vs Q E hr h => ?_)
  · obtain ⟨v, p, w, s, x, rfl, _⟩ := h
    rfl
  · obtain ⟨v, p, w, so, x, rfl, hv, W, hs, O, hx, hT, k⟩ := h
    refine ⟨_, (pss_cons (ps_expr (pe_fn (g_need_state.mono (by decide)) hr (pa_cons (pv 0) (pa_cons (pv 1) pa_nil))))
      (pss_cons (ps_expr (pe_fn (g_need_person.mono (by decide)) hr (pa_cons (pv 0) (pa_cons (pv 2) pa_nil))))
      (pss_one (ps_ret (pe_callLam (px := "here") (kb := 1) (g_least_of.mono (by decide)) hr (passes_call (takes_of rfl rfl rfl rfl) (fun _ _ _ _ h => h)) (by rfl) (pv 0) (pv 1) (lamP_by (sc := defScope sCallsToAlone) (by decide +kernel)) (show ("here" : Str) ∉ (["web", "standing", "person", "one"] : List Str) by decide) rfl M.tb rfl M.mem M.uniq rfl (fun _ _ _ _ _ _ => rfl) (fun f c' A outer s H cs hr' => pe_and (pe_cmpR (r := rIn K false) op_in_seq (pv 3) (pv 0) rfl) (pe_one (pe_not (pe_callB (r := rAny K) (cr_any rfl) (by rfl) B.any boot_any (pa_cons (pe_lc (wi := iTup K _) (own := [("one", 4)]) (g := gName 4) (tt := tYes) rfl (show ("here" :: ["web", "standing", "person", "one"] : List Str).Nodup by decide) (pi_tup (pe_ix (r := rIxT K) ix_tup (pv 1) (pv 3) (fun _ _ => rfl))) (blkOk_by (N := ["here", "web", "standing", "person", "one"]) (sc := lamScope sCallsToAlone) (by decide +kernel)) (fun _ _ _ _ _ => pg_name (i := 4) (show ("here" :: ["web", "standing", "person", "one"] : List Str).Nodup by decide) rfl (Or.inl rfl)) (fun _ _ _ _ _ => pts_nil) (fun _ _ _ _ _ => pe_cmpR (r := rIn K false) op_in_seq (pv 4) (pv 0) rfl)) pa_nil)))))))))), ?_⟩
    refine un_seq ⟨_, rfl, _, rfl, v, p, w, so, rfl, hv, W, hs, O, fun H1 e1 => ?_⟩
    refine un_seq ⟨_, rfl, _, rfl, v, w, x, rfl, hv.mono (tup_of e1), hx, fun H2 e2 => ?_⟩
    have fl := fr_len W hx
    have hW := W.le
    refine rd_least (e1.trans e2) hv W hs O hT k rfl rfl fun H3 t3 HZ a t Q' eZ ha ht hq => ?_
    refine ⟨_, rfl, _, rfl, rIn_nat ha ⟨_, rfl, br rfl (fun h => ?_) (fun h => ?_)⟩⟩
    · refine rd_anyT (R := NI) (l := fr w x) (fun q => t.contains q) (src_row (by rfl) (by rfl) (hv.mono (t3.trans (tup_of eZ))) hx) (by omega) ni_up (fun y o H4 ho e4 r Kt kt => ?_) (fun H4 e4 => ⟨_, rfl, ?_⟩)
      · obtain rfl : y = nv o := r
        exact ⟨rfl, _, rfl, _, rfl, rIn_nat (e4 _ _ ha) (kt H4 (Same.refl _))⟩
      · have := hq H4 e4
        rw [h, Bool.true_and] at this
        exact this
    · have := hq HZ (Same.refl _)
      rw [h, Bool.false_and] at this
      exact this
def spCallsToEndWith (T : List (Addr × Str)) (C : Addr) : Sp := fun vs H Q E => ∃ v p w s x, vs = [v, p, nv x] ∧ WebAt H v w ∧ WebOk w ∧ Ppl H p s ∧ SetOk w.length s ∧ x < w.length ∧ Tabs T H ∧ Out T C w s (fun t => t.contains x && apart w t) H Q E
theorem scCallsToEndWith : FnScope ["web", "standing", "person"] ["web", "standing", "person"] (defScope sCallsToEndWith) := ⟨rfl, rfl, rfl, by decide +kernel, rfl, by decide +kernel, by decide +kernel⟩
theorem ok_calls_to_end_with {c Pt C : Addr} {T : List (Addr × Str)} (F : FnDC K mg "calls_to_end_with" sCallsToEndWith c) (B : Bt mg) (M : Mkr base mg T "calls_to_end_with" c Pt) (g_least_of : Fnc P w K mg base (L2.CX P w) "least_of" 3 ["web", "standing", "fits"] (spLeastOf P w K mg base C)) (g_need_state : Fnc P w K mg base CX0 "need_state" 4 ["web", "standing"] spNeedState) (g_need_person : Fnc P w K mg base CX0 "need_person" 3 ["web", "person"] spNeedPerson) (g_apart_in : Fnc P w K mg base CX0 "apart_in" 1 ["web", "people"] spApartIn) :
    Fnc P w K mg base (L2.CX P w) "calls_to_end_with" 5 ["web", "standing", "person"] (spCallsToEndWith T C) := by
  refine fncC_of F scCallsToEndWith (fun vs H Q E h => ?_) (fun _ _ _ _ _ _ us hl => match us, hl with | [_, _, _], _ => rfl) (fun f A outer s H vs Q E hr h => ?_)
  · obtain ⟨v, p, w, s, x, rfl, _⟩ := h
    rfl
  · obtain ⟨v, p, w, so, x, rfl, hv, W, hs, O, hx, hT, k⟩ := h
    refine ⟨_, (pss_cons (ps_expr (pe_fn (g_need_state.mono (by decide)) hr (pa_cons (pv 0) (pa_cons (pv 1) pa_nil))))
      (pss_cons (ps_expr (pe_fn (g_need_person.mono (by decide)) hr (pa_cons (pv 0) (pa_cons (pv 2) pa_nil))))
      (pss_one (ps_ret (pe_callLam (px := "here") (kb := 1) (g_least_of.mono (by decide)) hr (passes_call (takes_of rfl rfl rfl rfl) (fun _ _ _ _ h => h)) (by rfl) (pv 0) (pv 1) (lamP_by (sc := defScope sCallsToEndWith) (by decide +kernel)) (show ("here" : Str) ∉ (["web", "standing", "person"] : List Str) by decide) rfl M.tb rfl M.mem M.uniq rfl (fun _ _ _ _ _ _ => rfl) (fun f c' A outer s H cs hr' => pe_and (pe_cmpR (r := rIn K false) op_in_seq (pv 3) (pv 0) rfl) (pe_one (pe_fn (g_apart_in.mono (by decide)) hr' (pa_cons (pv 1) (pa_cons (pv 0) pa_nil)))))))))), ?_⟩
    refine un_seq ⟨_, rfl, _, rfl, v, p, w, so, rfl, hv, W, hs, O, fun H1 e1 => ?_⟩
    refine un_seq ⟨_, rfl, _, rfl, v, w, x, rfl, hv.mono (tup_of e1), hx, fun H2 e2 => ?_⟩
    refine rd_least (e1.trans e2) hv W hs O hT k rfl rfl fun H3 t3 HZ a t Q' eZ ha ht hq => ?_
    refine ⟨_, rfl, _, rfl, rIn_nat ha ⟨_, rfl, br rfl (fun h => ?_) (fun h => ?_)⟩⟩
    · refine ⟨_, rfl, _, rfl, v, _, w, t, rfl, hv.mono (t3.trans (tup_of eZ)), ⟨a, rfl, ha⟩, ht.1, ht.2, fun H4 e4 => ?_⟩
      have := hq H4 e4
      rw [h, Bool.true_and] at this
      exact this
    · have := hq HZ (Same.refl _)
      rw [h, Bool.false_and] at this
      exact this
def spCallsToSize (T : List (Addr × Str)) (C : Addr) : Sp := fun vs H Q E => ∃ v p w s x, vs = [v, p, nv x] ∧ WebAt H v w ∧ WebOk w ∧ Ppl H p s ∧ SetOk w.length s ∧ x ≤ 100 ∧ Tabs T H ∧ Out T C w s (fun t => decide (t.length ≤ x)) H Q E
theorem scCallsToSize : FnScope ["web", "standing", "many"] ["web", "standing", "many"] (defScope sCallsToSize) := ⟨rfl, rfl, rfl, by decide +kernel, rfl, by decide +kernel, by decide +kernel⟩
theorem ok_calls_to_size {c Pt C : Addr} {T : List (Addr × Str)} (F : FnDC K mg "calls_to_size" sCallsToSize c) (B : Bt mg) (M : Mkr base mg T "calls_to_size" c Pt) (g_least_of : Fnc P w K mg base (L2.CX P w) "least_of" 3 ["web", "standing", "fits"] (spLeastOf P w K mg base C)) (g_need_state : Fnc P w K mg base CX0 "need_state" 4 ["web", "standing"] spNeedState) (g_is_in : Fnc P w K mg base CX0 "is_in" 2 ["value", "least", "most"] spIsIn) :
    Fnc P w K mg base (L2.CX P w) "calls_to_size" 5 ["web", "standing", "many"] (spCallsToSize T C) := by
  refine fncC_of F scCallsToSize (fun vs H Q E h => ?_) (fun _ _ _ _ _ _ us hl => match us, hl with | [_, _, _], _ => rfl) (fun f A outer s H vs Q E hr h => ?_)
  · obtain ⟨v, p, w, s, x, rfl, _⟩ := h
    rfl
  · obtain ⟨v, p, w, so, x, rfl, hv, W, hs, O, hx, hT, k⟩ := h
    refine ⟨_, (pss_cons (ps_expr (pe_fn (g_need_state.mono (by decide)) hr (pa_cons (pv 0) (pa_cons (pv 1) pa_nil))))
      (pss_cons (ps_if (pt_not (pt_val (pe_fn (g_is_in.mono (by decide)) hr (pa_cons (pv 2) (pa_cons pe_int (pa_cons pe_int pa_nil)))))) pss_never pss_nil)
      (pss_one (ps_ret (pe_callLam (px := "here") (kb := 1) (g_least_of.mono (by decide)) hr (passes_call (takes_of rfl rfl rfl rfl) (fun _ _ _ _ h => h)) (by rfl) (pv 0) (pv 1) (lamP_by (sc := defScope sCallsToSize) (by decide +kernel)) (show ("here" : Str) ∉ (["web", "standing", "many"] : List Str) by decide) rfl M.tb rfl M.mem M.uniq rfl (fun _ _ _ _ _ _ => rfl) (fun f c' A outer s H cs hr' => pe_cmpR op_le (pe_callB (r := rLen K) call_len_seq (by rfl) B.len boot_len (pa_cons (pv 0) pa_nil)) (pv 3) (nomark _))))))), ?_⟩
    refine un_seq ⟨_, rfl, _, rfl, v, p, w, so, rfl, hv, W, hs, O, fun H1 e1 => ?_⟩
    refine un_seq ⟨_, rfl, (x : Int), 0, 100, rfl, by omega, by omega, true, rfl, iteF ?_⟩
    refine rd_least e1 hv W hs O hT k rfl rfl fun H3 t3 HZ a t Q' eZ ha ht hq => ?_
    refine ⟨_, rfl, a, _, rfl, .inr (SqT.of ha), _, rfl, _, _, rfl, rfl, ?_⟩
    have := hq HZ (Same.refl _)
    rw [show decide (t.length ≤ x) = decide (((tv t).length : Int) ≤ (x : Int)) from by rw [List.length_map, decide_eq_decide]; omega] at this
    exact this
end
end Ts



set_option Elab.async false
set_option linter.all false
set_option maxRecDepth 100000
set_option maxHeartbeats 4000000
namespace Ts
open PySem PySem.Spec PyProof.Rows L2 Tm
def rListD : List V → Hp → VK → Prop := fun xs H Q => ∃ d kvs, xs = [V.ref d] ∧ Rd H d (.dT kvs) ∧ ∀ p bs, H p = none → IsKeys H kvs bs → Q (.ref p) (upd H p (.lst (bs.map V.ref)))
theorem keys_ppl {H : Hp} : ∀ {l : Kvs} {bs : List Addr}, IsKeys H (kvN l) bs → Paired (Ppl H) (bs.map V.ref) (l.map (·.1))
  | [], _, h => by
    cases h
    exact .nil
  | q :: l, _, h => by
    cases h with
    | cons r t =>
      have r2 : H _ = some (.tup ((keyN q.1).map kV)) := r
      rw [keyN_kV] at r2
      exact .cons ⟨_, rfl, r2⟩ (keys_ppl t)
/-- list(reached_from(..)) -/
theorem rd_listD {H H1 : Hp} {Q : VK} {F : Addr} {l : Kvs} (hF : H1 F = some (.dT (kvN l))) (k : ∀ D xs H2, Same H1 H2 → H2 D = some (.lst xs) → Paired (Ppl H2) xs (l.map (·.1)) → H1 D = none → Q (.ref D) H2) : rListD [.ref F] H1 Q :=
  ⟨F, _, rfl, .inl hF, fun p bs hp hb => k p _ _ (same_new hp) upd_same (paired_mono (fun _ _ => Ppl.mono (tup_of (same_new hp))) (keys_ppl hb)) hp⟩
theorem rf_mem {w : Web} {s t : List Nat} {l : Kvs} (hs : s.Pairwise (· < ·)) (h : RF w s l) : t ∈ l.map (·.1) ↔ Rch w s t := by
  constructor
  · intro ht
    obtain ⟨⟨t', d⟩, h1, h2⟩ := List.mem_map.mp ht
    have e : t' = t := h2
    subst e
    exact ((h.mem _ _).mp h1).rch
  · intro ht
    obtain ⟨d, hd⟩ := ht.dist hs
    exact List.mem_map.mpr ⟨(t, d), (h.mem _ _).mpr hd, rfl⟩
theorem peaks_apart {w : Web} {s : List Nat} (W : WebOk w) (o : SetOk w.length s) : apart w (peaksIn w s) = true := by
  rw [apart_iff]
  intro a ha b hb hab
  have h1 := (mem_peaks W o).mp ha
  have h2 := (mem_peaks W o).mp hb
  have la := o.lt a h1.1
  have hba := W.sym a b la hab
  rcases Nat.lt_trichotomy a b with z | z | z
  · have := h1.2 b h2.1
    rw [hit_of z hba] at this
    cases this
  · subst z
    exact W.irr a la hab
  · have := h2.2 a h1.1
    rw [hit_of z hab] at this
    cases this
section
variable {P : Program} {w : World} {K : PySem.W.Frag} {mg : Str → Option Value} {base : Heap}
def spReached : Sp := fun vs H Q _ => ∃ v p w s, vs = [v, p] ∧ WebAt H v w ∧ WebOk w ∧ Ppl H p s ∧ SetOk w.length s ∧ ∀ x L H', Same H H' → (∀ t, t ∈ L ↔ Rch w s t) → LstT H' x L → Q x H'
theorem scReached : FnScope ["web", "standing"] ["web", "standing"] (defScope sReached) := ⟨rfl, rfl, rfl, by decide +kernel, rfl, by decide +kernel, by decide +kernel⟩
theorem ok_reached (F : FnD K mg "reached" sReached) (B : Bt mg) (g_need_state : Fnc P w K mg base CX0 "need_state" 4 ["web", "standing"] spNeedState) (g_reached_from : Fnc P w K mg base CX0 "reached_from" 2 ["web", "standing"] spReachedFrom) :
    Fnc P w K mg base CX0 "reached" 5 ["web", "standing"] spReached := by
  refine fnc0 F scReached (fun vs H Q E h => ?_) (fun _ _ _ _ _ _ us hl => match us, hl with | [_, _], _ => rfl) (fun f cdv A outer s H vs Q E hr h => ?_)
  · obtain ⟨v, p, w, s, rfl, _⟩ := h
    rfl
  · obtain ⟨v, p, w, so, rfl, hv, W, hs, O, k⟩ := h
    refine ⟨_, (pss_cons (ps_expr (pe_fn (g_need_state.mono (by decide)) hr (pa_cons (pv 0) (pa_cons (pv 1) pa_nil))))
      (pss_one (ps_ret (pe_callB (r := rSortedT K) (cr_sortedT (Nat.lt_of_le_of_lt (Nat.add_le_add_left (by decide) _) hr.units)) (by rfl) B.sorted boot_sorted (pa_cons (pe_callTy (r := rListD) (call_list_dT rfl) (by rfl) B.list boot_list (pa_cons (pe_fn (g_reached_from.mono (by decide)) hr (pa_cons (pv 0) (pa_cons (pv 1) pa_nil))) pa_nil)) pa_nil))))), ?_⟩
    refine un_seq ⟨_, rfl, _, rfl, v, p, w, so, rfl, hv, W, hs, O, fun H0 e0 => ?_⟩
    have hv0 := hv.mono (tup_of e0)
    have hs0 := hs.mono (tup_of e0)
    have hsl := SetOk.len O
    have hW := W.le
    dsimp only
    refine ⟨_, rfl, _, rfl, v, p, w, so, rfl, hv0, W, hs0, O, fun F kvs H1 e1 hn hR hF => ?_⟩
    dsimp only [tNil]
    refine rd_listD (H := H1) hF fun D xs H2 e2 hD hp _ => ?_
    exact rd_sorted hD hp fun x m H3 e3 hm hx => k x m H3 (e0.trans (e1.trans (e2.trans e3))) (fun t => by rw [hm.mem_iff]; exact rf_mem O.asc hR) hx
def spCanSit : Sp := fun vs H Q _ => ∃ v p w s, vs = [v, p] ∧ WebAt H v w ∧ WebOk w ∧ Ppl H p s ∧ SetOk w.length s ∧ ∀ x (L : List (List Nat)) H', Same H H' → (∀ t, t ∈ L ↔ Rch w s t) → Ppl H' x (s.filter fun p => L.any fun t => !t.contains p) → Q x H'
theorem scCanSit : FnScope ["web", "standing", "some", "found", "person", "here"] ["web", "standing"] (defScope sCanSit) := ⟨rfl, rfl, rfl, by decide +kernel, rfl, by decide +kernel, by decide +kernel⟩
theorem ok_can_sit (F : FnD K mg "can_sit" sCanSit) (B : Bt mg) (g_need_state : Fnc P w K mg base CX0 "need_state" 4 ["web", "standing"] spNeedState) (g_reached_from : Fnc P w K mg base CX0 "reached_from" 2 ["web", "standing"] spReachedFrom) :
    Fnc P w K mg base CX0 "can_sit" 5 ["web", "standing"] spCanSit := by
  refine fnc0 F scCanSit (fun vs H Q E h => ?_) (fun _ _ _ _ _ _ us hl => match us, hl with | [_, _], _ => rfl) (fun f cdv A outer s H vs Q E hr h => ?_)
  · obtain ⟨v, p, w, s, rfl, _⟩ := h
    rfl
  · obtain ⟨v, p, w, so, rfl, hv, W, hs, O, k⟩ := h
    refine ⟨_, (pss_cons (ps_expr (pe_fn (g_need_state.mono (by decide)) hr (pa_cons (pv 0) (pa_cons (pv 1) pa_nil))))
      (pss_cons (ps_set (i := 2) scCanSit.nd rfl (Or.inl rfl) (pe_callTy (r := rListD) (call_list_dT rfl) (by rfl) B.list boot_list (pa_cons (pe_fn (g_reached_from.mono (by decide)) hr (pa_cons (pv 0) (pa_cons (pv 1) pa_nil))) pa_nil)))
      (pss_cons (ps_set (i := 3) scCanSit.nd rfl (Or.inl rfl) (pe_lst pa_nil))
      (pss_cons (ps_for PassesOwn.never rfl (pi_tup (pv 1)) (pg_name (i := 4) scCanSit.nd rfl (Or.inr rfl)) (pss_one (ps_if (pt_val (pe_callB (r := rAny K) (cr_any rfl) (by rfl) B.any boot_any (pa_cons (pe_lc (wi := iList K _) (own := [("here", 5)]) (g := gName 5) (tt := tYes) rfl scCanSit.nd (pi_list (pv 2)) (blkOk_by (N := ["web", "standing", "some", "found", "person", "here"]) (sc := (defScope sCanSit)) (by decide +kernel)) (fun _ _ _ _ _ => (pg_name (i := 5) scCanSit.nd rfl (Or.inl rfl))) (fun _ _ _ _ _ => pts_nil) (fun _ _ _ _ _ => (pe_cmpR (r := rIn K true) op_notIn_seq (pv 4) (pv 5) rfl))) pa_nil))) (pss_one (ps_expr (pe_bm PySem.F.plainAttrs_list PySem.F.slot_list_append PySem.F.type_list_append mt_append (pv 3) (pa_cons (pv 4) pa_nil)))) pss_nil)))
      (pss_one (ps_ret (pe_callTy (r := rTuple K) call_tuple_of (by rfl) B.tuple boot_tuple (pa_cons (pv 3) pa_nil)))))))), ?_⟩
    refine un_seq ⟨_, rfl, _, rfl, v, p, w, so, rfl, hv, W, hs, O, fun H0 e0 => ?_⟩
    have hv0 := hv.mono (tup_of e0)
    have hs0 := hs.mono (tup_of e0)
    have hsl := SetOk.len O
    have hW := W.le
    dsimp only
    obtain ⟨b, rfl, hb⟩ := hs0
    refine un_seq ⟨_, rfl, _, rfl, v, _, w, so, rfl, hv0, W, ⟨b, rfl, hb⟩, O, fun F kvs H1 e1 hn hR hF => ?_⟩
    dsimp only [tNil]
    refine rd_listD (H := H1) hF fun L0 xs H2 e2 hL hp _ => ?_
    have hmem := fun t => rf_mem (t := t) O.asc hR
    have hll := rf_len hR (by omega)
    generalize hLl : kvs.map (·.1) = LL at hp hmem
    have hLL : LL.length ≤ 128 := by
      rw [← hLl, List.length_map]
      exact hll
    have e12 := e1.trans e2
    refine un_seq ⟨by decide, fun D hD => ?_⟩
    have eD := same_new (o := .lst []) hD
    have hDH : H0 D = none := none_of e12 hD
    refine ⟨_, rfl, b, rfl, ⟨_, SqT.of (eD _ _ (e12 _ _ hb))⟩, for_tup (xs := tv so) (fun i σ H' => Same H0 H' ∧ H' L0 = some (.lst xs) ∧ Paired (Ppl H') xs LL ∧ ∃ u, σ = [some v, some (.ref b), some (.ref L0), some (.ref D), u, none] ∧ H' D = some (.lst (tv ((so.take i).filter fun p => LL.any fun t => !t.contains p))))
      ⟨e12.trans eD, eD _ _ hL, paired_mono (fun _ _ => Ppl.mono (tup_of eD)) hp, none, rfl, upd_same⟩ (fun i σ H' _ p => SqT.of (p.1 _ _ hb)) (fun i x σ H' hx p => ?_) (fun σ H' p => ?_)⟩
    · obtain ⟨e, hL1, hp1, u, rfl, hD1⟩ := p
      obtain ⟨c, hc, rfl⟩ := tv_get hx
      have hle := flt_len so i fun p => LL.any fun t => !t.contains p
      have hDL : L0 ≠ D := fun z => by
        rw [← z, hL] at hD
        cases hD
      refine rd_anyL (R := Ppl) (l := LL) (fun t => !t.contains c) (src_lst (by rfl) ⟨L0, xs, rfl, hL1, hp1⟩) (by omega) ppl_up (fun x t H3 ht e3 r Kt kt => ?_) (fun H3 e3 => ?_)
      · obtain ⟨tb, rfl, htb⟩ := r
        exact ⟨rfl, _, rfl, _, rfl, rNotIn_nat htb (kt H3 (Same.refl _))⟩
      · refine ⟨_, rfl, br (c := (fun p => LL.any fun t => !t.contains p) c) rfl (fun hp => ?_) (fun hp => ?_)⟩
        · refine ⟨_, rfl, .inl ⟨rfl, _, SqL.of (e3 _ _ hD1)⟩, _, rfl, D, _, _, rfl, rfl, e3 _ _ hD1, by rw [List.length_map, sizeLine_eq]; omega, ?_⟩
          have tu : Tup H3 (upd H3 D (.lst (tv ((so.take i).filter fun p => LL.any fun t => !t.contains p) ++ [nv c]))) := tup_upd (e3 _ _ hD1) (fun _ z => by cases z)
          refine ⟨fun b o q => ?_, ?_, paired_mono (fun _ _ => Ppl.mono ((tup_of e3).trans tu)) hp1, _, rfl, ?_⟩
          · rw [upd_ne (ne_of_none q hDH)]
            exact e3 _ _ (e _ _ q)
          · rw [upd_ne hDL]
            exact e3 _ _ hL1
          · rw [flt_pos hc hp, tv_app]
            exact upd_same
        · refine ⟨e.trans e3, e3 _ _ hL1, paired_mono (fun _ _ => Ppl.mono (tup_of e3)) hp1, _, rfl, ?_⟩
          rw [flt_neg hc hp]
          exact e3 _ _ hD1
    · obtain ⟨e, hL1, hp1, u, rfl, hD1⟩ := p
      rw [List.length_map, List.take_length] at hD1
      exact ⟨_, rfl, D, _, rfl, .inl ⟨SqL.of hD1, fun l hl => k _ LL _ (e0.trans (e.trans (same_new hl))) hmem ⟨l, rfl, upd_same⟩⟩⟩
def spEndsIn : Sp := fun vs H Q _ => ∃ v p w s, vs = [v, p] ∧ WebAt H v w ∧ WebOk w ∧ Ppl H p s ∧ SetOk w.length s ∧ ∀ x L H', Same H H' → L.length ≤ 128 → (∀ t, t ∈ L ↔ IsEnd w s t) → LstT H' x L → Q x H'
theorem scEndsIn : FnScope ["web", "standing", "row"] ["web", "standing"] (defScope sEndsIn) := ⟨rfl, rfl, rfl, by decide +kernel, rfl, by decide +kernel, by decide +kernel⟩
theorem ok_ends_in (F : FnD K mg "ends_in" sEndsIn) (B : Bt mg) (g_choices : Fnc P w K mg base CX0 "choices" 1 ["people"] spChoices) (g_apart_in : Fnc P w K mg base CX0 "apart_in" 1 ["web", "people"] spApartIn) (g_fits : Fnc P w K mg base CX0 "fits" 2 ["web", "standing", "goal"] spFits) :
    Fnc P w K mg base CX0 "ends_in" 3 ["web", "standing"] spEndsIn := by
  refine fnc0 F scEndsIn (fun vs H Q E h => ?_) (fun _ _ _ _ _ _ us hl => match us, hl with | [_, _], _ => rfl) (fun f cdv A outer s H vs Q E hr h => ?_)
  · obtain ⟨v, p, w, s, rfl, _⟩ := h
    rfl
  · obtain ⟨v, p, w, so, rfl, hv, W, hs, O, k⟩ := h
    have hsl := SetOk.len O
    have hW := W.le
    have hcl : (choices so).length ≤ 128 := by
      rw [choices_len _ _ rfl]
      exact Nat.pow_le_pow_right (by decide) (by omega : so.length ≤ 7)
    refine ⟨_, (pss_one (ps_ret (pe_callB (r := rSortedT K) (cr_sortedT (Nat.lt_of_le_of_lt (Nat.add_le_add_left (by decide) _) hr.units)) (by rfl) B.sorted boot_sorted (pa_cons (pe_lc (wi := iList K _) (own := [("row", 2)]) (g := gName 2) (tt := _) rfl scEndsIn.nd (pi_list (pe_fn (g_choices.mono (by decide)) hr (pa_cons (pv 1) pa_nil))) (blkOk_by (N := ["web", "standing", "row"]) (sc := (defScope sEndsIn)) (by decide +kernel)) (fun _ _ _ _ _ => (pg_name (i := 2) scEndsIn.nd rfl (Or.inl rfl))) (fun _ _ _ _ _ => pts_one (pw_and (pt_val (pe_fn (g_apart_in.mono (by decide)) hr (pa_cons (pv 0) (pa_cons (pv 2) pa_nil)))) (pw_and1 (pt_val (pe_fn (g_fits.mono (by decide)) hr (pa_cons (pv 0) (pa_cons (pv 1) (pa_cons (pv 2) pa_nil))))))).pt) (fun _ _ _ _ _ => (pv 2))) pa_nil)))), ?_⟩
    refine un_ret (un_cb (un_cons (rd_lcL (R := Ppl) (S := Ppl) (l := choices so) (fun row => apart w row && fits w so row) (fun row => row) (fun C kq => ⟨_, rfl, p, so, rfl, hs, by omega, fun y H2 e2 hy => ?_⟩) (by omega) ppl_up ppl_up (fun x row H2 N Kt hrow e2 rx kn ky => ?_) (fun D ys H2 e2 hD hys => ?_))))
    · obtain ⟨a, xs, rfl, ha, hp⟩ := hy
      exact kq a xs H2 e2 ha hp
    · have hsub := choices_mem.mp hrow
      have hrl := hsub.length_le
      refine ⟨rfl, _, rfl, _, rfl, v, x, w, row, rfl, hv.mono (tup_of e2), rx, fun y hy => O.lt y (hsub.subset hy), by omega, fun H3 e3 => ⟨_, rfl, br rfl (fun h => ?_) (fun h => ?_)⟩⟩
      · refine ⟨_, rfl, _, rfl, _, rfl, v, p, x, w, so, row, rfl, hv.mono (tup_of (e2.trans e3)), W, hs.mono (tup_of (e2.trans e3)), O, rx.mono (tup_of e3), O.sub hsub, fun H4 e4 => ⟨_, rfl, br rfl (fun g => ?_) (fun g => ?_)⟩⟩
        · exact ⟨_, rfl, ky (by dsimp only; rw [h, g]; rfl) _ _ (e3.trans e4) (rx.mono (tup_of (e3.trans e4)))⟩
        · exact kn (by dsimp only; rw [h, g]; rfl) _ (e3.trans e4)
      · exact kn (by dsimp only; rw [h]; rfl) _ e3
    · rw [List.map_id'] at hys
      have hfl : ((choices so).filter fun row => apart w row && fits w so row).length ≤ (choices so).length := List.length_filter_le _ _
      exact rd_sorted hD hys fun x m H3 e3 hm hx => k x m H3 (e2.trans e3) (by rw [hm.length_eq]; omega) (fun t => by
        rw [hm.mem_iff, List.mem_filter, choices_mem, Bool.and_eq_true]
        constructor
        · rintro ⟨h1, h2, h3⟩
          exact ⟨(fits_iff W O (O.sub h1)).mp h3, h2⟩
        · rintro ⟨h1, h2⟩
          exact ⟨h1.sub, h2, (fits_iff W O (O.sub h1.sub)).mpr h1⟩) hx
def spEnds : Sp := spEndsIn
theorem scEnds : FnScope ["web", "standing"] ["web", "standing"] (defScope sEnds) := ⟨rfl, rfl, rfl, by decide +kernel, rfl, by decide +kernel, by decide +kernel⟩
theorem ok_ends (F : FnD K mg "ends" sEnds) (B : Bt mg) (g_need_state : Fnc P w K mg base CX0 "need_state" 4 ["web", "standing"] spNeedState) (g_ends_in : Fnc P w K mg base CX0 "ends_in" 3 ["web", "standing"] spEndsIn) :
    Fnc P w K mg base CX0 "ends" 5 ["web", "standing"] spEnds := by
  refine fnc0 F scEnds (fun vs H Q E h => ?_) (fun _ _ _ _ _ _ us hl => match us, hl with | [_, _], _ => rfl) (fun f cdv A outer s H vs Q E hr h => ?_)
  · obtain ⟨v, p, w, s, rfl, _⟩ := h
    rfl
  · obtain ⟨v, p, w, so, rfl, hv, W, hs, O, k⟩ := h
    refine ⟨_, (pss_cons (ps_expr (pe_fn (g_need_state.mono (by decide)) hr (pa_cons (pv 0) (pa_cons (pv 1) pa_nil))))
      (pss_one (ps_ret (pe_fn (g_ends_in.mono (by decide)) hr (pa_cons (pv 0) (pa_cons (pv 1) pa_nil)))))), ?_⟩
    refine un_seq ⟨_, rfl, _, rfl, v, p, w, so, rfl, hv, W, hs, O, fun H0 e0 => ?_⟩
    have hv0 := hv.mono (tup_of e0)
    have hs0 := hs.mono (tup_of e0)
    have hsl := SetOk.len O
    have hW := W.le
    dsimp only
    exact ⟨_, rfl, _, rfl, v, p, w, so, rfl, hv0, W, hs0, O, fun x L H' e1 h1 h2 h3 => k x L H' (e0.trans e1) h1 h2 h3⟩
def spLeastEnd : Sp := spPeaksIn
theorem scLeastEnd : FnScope ["web", "standing"] ["web", "standing"] (defScope sLeastEnd) := ⟨rfl, rfl, rfl, by decide +kernel, rfl, by decide +kernel, by decide +kernel⟩
theorem ok_least_end (F : FnD K mg "least_end" sLeastEnd) (B : Bt mg) (g_need_state : Fnc P w K mg base CX0 "need_state" 4 ["web", "standing"] spNeedState) (g_peaks_in : Fnc P w K mg base CX0 "peaks_in" 1 ["web", "standing"] spPeaksIn) :
    Fnc P w K mg base CX0 "least_end" 5 ["web", "standing"] spLeastEnd := by
  refine fnc0 F scLeastEnd (fun vs H Q E h => ?_) (fun _ _ _ _ _ _ us hl => match us, hl with | [_, _], _ => rfl) (fun f cdv A outer s H vs Q E hr h => ?_)
  · obtain ⟨v, p, w, s, rfl, _⟩ := h
    rfl
  · obtain ⟨v, p, w, so, rfl, hv, W, hs, O, k⟩ := h
    refine ⟨_, (pss_cons (ps_expr (pe_fn (g_need_state.mono (by decide)) hr (pa_cons (pv 0) (pa_cons (pv 1) pa_nil))))
      (pss_one (ps_ret (pe_fn (g_peaks_in.mono (by decide)) hr (pa_cons (pv 0) (pa_cons (pv 1) pa_nil)))))), ?_⟩
    refine un_seq ⟨_, rfl, _, rfl, v, p, w, so, rfl, hv, W, hs, O, fun H0 e0 => ?_⟩
    have hv0 := hv.mono (tup_of e0)
    have hs0 := hs.mono (tup_of e0)
    have hsl := SetOk.len O
    have hW := W.le
    dsimp only
    exact ⟨_, rfl, _, rfl, v, p, w, so, rfl, hv0, W, hs0, O, fun x H' e1 hx => k x H' (e0.trans e1) hx⟩
def spCanStand : Sp := fun vs H Q _ => ∃ v p w s x, vs = [v, p, nv x] ∧ WebAt H v w ∧ WebOk w ∧ Ppl H p s ∧ SetOk w.length s ∧ x < w.length ∧ ∀ b H', Same H H' → (b = true ↔ ∃ e, IsEnd w s e ∧ x ∈ e) → Q (.bl b) H'
theorem scCanStand : FnScope ["web", "standing", "person", "end"] ["web", "standing", "person"] (defScope sCanStand) := ⟨rfl, rfl, rfl, by decide +kernel, rfl, by decide +kernel, by decide +kernel⟩
theorem ok_can_stand (F : FnD K mg "can_stand" sCanStand) (B : Bt mg) (g_need_state : Fnc P w K mg base CX0 "need_state" 4 ["web", "standing"] spNeedState) (g_need_person : Fnc P w K mg base CX0 "need_person" 3 ["web", "person"] spNeedPerson) (g_ends_in : Fnc P w K mg base CX0 "ends_in" 3 ["web", "standing"] spEndsIn) :
    Fnc P w K mg base CX0 "can_stand" 5 ["web", "standing", "person"] spCanStand := by
  refine fnc0 F scCanStand (fun vs H Q E h => ?_) (fun _ _ _ _ _ _ us hl => match us, hl with | [_, _, _], _ => rfl) (fun f cdv A outer s H vs Q E hr h => ?_)
  · obtain ⟨v, p, w, s, x, rfl, _⟩ := h
    rfl
  · obtain ⟨v, p, w, so, x, rfl, hv, W, hs, O, hx, k⟩ := h
    refine ⟨_, (pss_cons (ps_expr (pe_fn (g_need_state.mono (by decide)) hr (pa_cons (pv 0) (pa_cons (pv 1) pa_nil))))
      (pss_cons (ps_expr (pe_fn (g_need_person.mono (by decide)) hr (pa_cons (pv 0) (pa_cons (pv 2) pa_nil))))
      (pss_one (ps_ret (pe_callB (r := rAny K) (cr_any rfl) (by rfl) B.any boot_any (pa_cons (pe_lc (wi := iList K _) (own := [("end", 3)]) (g := gName 3) (tt := tYes) rfl scCanStand.nd (pi_list (pe_fn (g_ends_in.mono (by decide)) hr (pa_cons (pv 0) (pa_cons (pv 1) pa_nil)))) (blkOk_by (N := ["web", "standing", "person", "end"]) (sc := (defScope sCanStand)) (by decide +kernel)) (fun _ _ _ _ _ => (pg_name (i := 3) scCanStand.nd rfl (Or.inl rfl))) (fun _ _ _ _ _ => pts_nil) (fun _ _ _ _ _ => (pe_cmpR (r := rIn K false) op_in_seq (pv 2) (pv 3) rfl))) pa_nil)))))), ?_⟩
    refine un_seq ⟨_, rfl, _, rfl, v, p, w, so, rfl, hv, W, hs, O, fun H0 e0 => ?_⟩
    have hv0 := hv.mono (tup_of e0)
    have hs0 := hs.mono (tup_of e0)
    have hsl := SetOk.len O
    have hW := W.le
    dsimp only
    refine un_seq ⟨_, rfl, _, rfl, v, w, x, rfl, hv0, hx, fun H1 e1 => ?_⟩
    dsimp only
    refine un_ret (rd_anyLE (R := Ppl) (PL := fun L => L.length ≤ 128 ∧ ∀ t, t ∈ L ↔ IsEnd w so t) (fun t => t.contains x) (fun C kq => ⟨_, rfl, _, rfl, v, p, w, so, rfl, hv0.mono (tup_of e1), W, hs0.mono (tup_of e1), O, fun y L H2 e2 h1 h2 h3 => ?_⟩) (fun L hL => by have := hL.1; omega) ppl_up (fun L hL y t H2 ht e2 r Kt kt => ?_) (fun L hL H2 e2 => ?_))
    · obtain ⟨a, xs, rfl, ha, hp⟩ := h3
      exact kq L a xs H2 ⟨h1, h2⟩ e2 ha hp
    · obtain ⟨tb, rfl, htb⟩ := r
      exact ⟨rfl, _, rfl, _, rfl, rIn_nat htb (kt H2 (Same.refl _))⟩
    · refine k _ H2 (e0.trans (e1.trans e2)) ?_
      rw [List.any_eq_true]
      constructor
      · rintro ⟨t, h1, h2⟩
        exact ⟨t, (hL.2 t).mp h1, List.contains_iff_mem.mp h2⟩
      · rintro ⟨t, h1, h2⟩
        exact ⟨t, (hL.2 t).mpr h1, List.contains_iff_mem.mpr h2⟩
end
end Ts



set_option Elab.async false
set_option linter.all false
set_option maxRecDepth 100000
set_option maxHeartbeats 4000000
namespace Ts
open PySem PySem.Spec PyProof.Rows L2 Tm
def SP (H : Hp) (v : V) (q : Nat × Nat) : Prop := ∃ t, v = V.ref t ∧ H t = some (.tup [nv q.1, nv q.2])
theorem sp_up : ∀ (H H' : Hp) (v : V) (q : Nat × Nat), Tup H H' → SP H v q → SP H' v q := fun _ _ _ _ t ⟨a, e, h⟩ => ⟨a, e, t _ _ h⟩
theorem rEq_int {K : PySem.W.Frag} {a b : Nat} {H : Hp} {Q : VK} (q : Q (.bl (decide (a = b))) H) : rEqD K (nv a) (nv b) H Q := ⟨_, _, .int _, .int _, shaped_pI a, shaped_pI b, by rw [eqv_pI]; exact q⟩
theorem rNe_int {K : PySem.W.Frag} {a b : Nat} {H : Hp} {Q : VK} (q : Q (.bl (!decide (a = b))) H) : rNeD K (nv a) (nv b) H Q := ⟨_, _, .int _, .int _, shaped_pI a, shaped_pI b, by rw [eqv_pI]; exact q⟩
theorem valV_mem : ∀ {l : Kvs} {t : List Nat} {d : Nat}, (l.map (·.1)).Nodup → (t, d) ∈ l → valV (kvN l) (keyN t) = some (nv d)
  | [], _, _, _, h => by cases h
  | q :: l, t, d, hn, h => by
    rw [List.map_cons, List.nodup_cons] at hn
    rcases List.mem_cons.mp h with e | h
    · subst e
      exact valV_pos rfl
    · have hne : ¬ keyN q.1 = keyN t := fun z => hn.1 (by rw [keyN_inj z]; exact List.mem_map.mpr ⟨(t, d), h, rfl⟩)
      have q2 := valV_neg (p := (keyN q.1, nv q.2)) (r := kvN l) hne
      exact q2.trans (valV_mem hn.2 h)
theorem key_new {l : Kvs} {i : Nat} {q : List Nat × Nat} (hn : (l.map (·.1)).Nodup) (hq : l[i]? = some q) (p : List Nat × Nat → Bool) : (((l.take i).filter p).map (·.1)).contains q.1 = false := by
  refine Bool.eq_false_iff.mpr fun z => ?_
  replace z := List.contains_iff_mem.mp z
  have h1 : (((l.take i).filter p).map (·.1)).Sublist ((l.take i).map (·.1)) := List.filter_sublist.map _
  have h2 := h1.subset z
  have h3 : ((l.take (i + 1)).map (·.1)).Nodup := hn.sublist ((List.take_sublist _ _).map _)
  rw [take_snoc hq, List.map_append, List.nodup_append] at h3
  exact h3.2.2 _ h2 _ (by simp) rfl
section
variable {K : PySem.W.Frag} {tt : TT} {td : TE} {σ : L2.St} {H : Hp} {Q : VK} {PL : Kvs → Prop} {i j : Nat}
/-- {k: v for k, v in d.items() if ..} -/
theorem rd_dcI (p : List Nat × Nat → Bool) (hs : KvSrc PL td σ H) (hl : ∀ l, PL l → l.length ≤ 1000 ∧ (l.map (·.1)).Nodup)
    (hw : ∀ x y, wipe (((wipe σ [i, j]).set i (some x)).set j (some y)) [i, j] = wipe σ [i, j]) (hi : ∀ x y, (((wipe σ [i, j]).set i (some x)).set j (some y))[i]? = some (some x)) (hj : ∀ x y, (((wipe σ [i, j]).set i (some x)).set j (some y))[j]? = some (some y))
    (turn : ∀ l, PL l → ∀ (b : Addr) (q : List Nat × Nat) (H2 : Hp), q ∈ l → Same H H2 → H2 b = some (.tup (tv q.1)) → ∀ F : Bool → Hp → Prop, (∀ H3, Same H2 H3 → F (p q) H3) → tt (((wipe σ [i, j]).set i (some (.ref b))).set j (some (nv q.2))) H2 F)
    (fin : ∀ l, PL l → ∀ D H2, H D = none → Same H H2 → H2 D = some (.dT (kvN (l.filter p))) → Q (.ref D) H2) : tDcT (iItemsT td) (gTup K 2 (gCons (gName i) (gCons (gName j) gNil))) tt (tVar i) (tVar j) [i, j] σ H Q := by
  refine hs _ fun l F H1 pl e hn hF => ⟨F, kvN l, rfl, hF, fun o => fun D hD => ?_⟩
  obtain ⟨hlen, hnd⟩ := hl l pl
  have eF : Same H (upd H1 F (.frz o (.dT (kvN l)))) := same_but hn e
  have hDH : H D = none := none_of eF hD
  refine ⟨fun n m H2 => m = l.length - n ∧ n ≤ l.length ∧ Same (upd H1 F (.frz o (.dT (kvN l)))) H2 ∧ H2 D = some (.dT (kvN ((l.take n).filter p))), ⟨l.length, by simp, Nat.zero_le _, same_new hD, upd_same⟩, ?_⟩
  rintro n m H2 ⟨rfl, hle, e2, hD2⟩
  have hF2 := e2 _ _ (upd_same (H := H1) (a := F) (o := .frz o (.dT (kvN l))))
  by_cases hlt : n < l.length
  · refine .inr ⟨⟨hF2, by rw [List.length_map]; exact hlt⟩, fun H3 => n + 1 ≤ l.length ∧ Same (upd H1 F (.frz o (.dT (kvN l)))) H3 ∧ H3 D = some (.dT (kvN ((l.take (n + 1)).filter p))), fun H' p' => ⟨l.length - (n + 1), by omega, rfl, p'⟩, fun x H' y => ?_⟩
    obtain ⟨T, k, v, b, hkv, rfl, hT, hb, rfl⟩ := y
    obtain ⟨q, hq, rfl, rfl⟩ := kvN_at hkv
    rw [keyN_kV] at hb
    have eT := same_new (o := .tup [.ref b, nv q.2]) hT
    refine ⟨T, _, rfl, SqT.of upd_same, rfl, _, _, rfl, _, _, rfl, rfl, hw _ _, ?_⟩
    refine turn l pl b q _ (List.mem_of_getElem? hq) (eF.trans (e2.trans eT)) (eT _ _ hb) _ fun H3 e3 => ?_
    refine br rfl (fun h => ?_) (fun h => ?_)
    · have hfl := flt_len l n p
      refine ⟨_, hi _ _, _, hj _ _, _, keyN q.1, b, rfl, by rw [keyN_kV]; exact e3 _ _ (eT _ _ hb), e3 _ _ (eT _ _ hD2), by rw [List.length_map, sizeLine_eq]; omega, hlt, fun a o' z => ?_, ?_⟩
      · rw [upd_ne (ne_of_none z hD)]
        exact e3 _ _ (eT _ _ (e2 _ _ z))
      · rw [upd_same, kvN_put (key_new hnd hq p), flt_pos hq h]
    · refine ⟨hlt, e2.trans (eT.trans e3), ?_⟩
      rw [flt_neg hq h]
      exact e3 _ _ (eT _ _ hD2)
  · have z : n = l.length := by omega
    subst z
    rw [List.take_length] at hD2
    exact .inl ⟨⟨hF2, by rw [List.length_map]; exact Nat.le_refl _⟩, fin l pl D H2 hDH (eF.trans e2) hD2⟩
/-- over the keys of a dict that stands -/
theorem rd_lcK2 {β : Type} {S : Hp → V → β → Prop} {g : TG} {te : TE} {vs : List Nat} {jx : Nat} {F : Addr} {l : Kvs} {Hb : Hp} (p : List Nat × Nat → Bool) (f : List Nat × Nat → β) (hj : σ[jx]? = some (some (.ref F))) (hF : H F = some (.dT (kvN l))) (hFb : Hb F = none) (e : Same Hb H) (hl : l.length ≤ 100000) (hS : ∀ H H' v b, Tup H H' → S H v b → S H' v b)
    (turn : ∀ (o : Obj) (b : Addr) (q : List Nat × Nat) (H2 : Hp) (N : Hp → Prop) (Kt : VK), q ∈ l → Same Hb H2 → H2 F = some (.frz o (.dT (kvN l))) → H2 b = some (.tup (tv q.1)) → (p q = false → ∀ H3, Same H2 H3 → N H3) → (p q = true → ∀ y H3, Same H2 H3 → S H3 y (f q) → Kt y H3) → TurnOk g tt te vs σ (.ref b) H2 N Kt)
    (fin : LcFin S ((l.filter p).map f) Hb Q) : tLc (iKeysT (tVar jx)) g tt te vs σ H Q :=
  ⟨_, hj, F, kvN l, rfl, hF, fun o => mapK p f upd_same hl hS (fun b q H2 N Kt hq e2 => turn o b q H2 N Kt hq ((same_but hFb e).trans e2) (e2 _ _ upd_same)) (fun D ys H2 _ e2 => fin D ys H2 ((same_but hFb e).trans e2))⟩
end
def rListV : List V → Hp → VK → Prop := fun xs H Q => ∃ p d kvs, xs = [V.ref p] ∧ H p = some (valsO p d) ∧ H d = some (.dT kvs) ∧ ∀ D, H D = none → Q (.ref D) (upd H D (.lst (kvs.map (·.2))))
section
variable {P : Program} {w : World} {K : PySem.W.Frag} {mg : Str → Option Value} {base : Heap}
def spFewestStanding : Sp := fun vs H Q _ => ∃ v p w s, vs = [v, p] ∧ WebAt H v w ∧ WebOk w ∧ Ppl H p s ∧ SetOk w.length s ∧ ∀ d x H', Same H H' → Dist w s (peaksIn w s) d → SP H' x ((peaksIn w s).length, d) → Q x H'
theorem scFewestStanding : FnScope ["web", "standing", "here", "many"] ["web", "standing"] (defScope sFewestStanding) := ⟨rfl, rfl, rfl, by decide +kernel, rfl, by decide +kernel, by decide +kernel⟩
theorem ok_fewest_standing (F : FnD K mg "fewest_standing" sFewestStanding) (B : Bt mg) (g_need_state : Fnc P w K mg base CX0 "need_state" 4 ["web", "standing"] spNeedState) (g_reached_from : Fnc P w K mg base CX0 "reached_from" 2 ["web", "standing"] spReachedFrom) :
    Fnc P w K mg base CX0 "fewest_standing" 5 ["web", "standing"] spFewestStanding := by
  refine fnc0 F scFewestStanding (fun vs H Q E h => ?_) (fun _ _ _ _ _ _ us hl => match us, hl with | [_, _], _ => rfl) (fun f cdv A outer s H vs Q E hr h => ?_)
  · obtain ⟨v, p, w, s, rfl, _⟩ := h
    rfl
  · obtain ⟨v, p, w, so, rfl, hv, W, hs, O, k⟩ := h
    refine ⟨_, (pss_cons (ps_expr (pe_fn (g_need_state.mono (by decide)) hr (pa_cons (pv 0) (pa_cons (pv 1) pa_nil))))
      (pss_one (ps_ret (pe_callB (r := rMinP K) (cr_minP rfl (Nat.lt_of_le_of_lt (Nat.add_le_add_left (by decide) _) hr.units)) (by rfl) B.min boot_min (pa_cons (pe_lc (own := [("here", 2), ("many", 3)]) (g := gTup K 2 (gCons (gName 2) (gCons (gName 3) gNil))) (tt := tYes) rfl scFewestStanding.nd (pi_itemsT (pe_fn (g_reached_from.mono (by decide)) hr (pa_cons (pv 0) (pa_cons (pv 1) pa_nil)))) (blkOk_by (N := ["web", "standing", "here", "many"]) (sc := (defScope sFewestStanding)) (by decide +kernel)) (fun _ _ _ _ _ => (pg_tup rfl (pgs_cons (pg_name (i := 2) scFewestStanding.nd rfl (Or.inl rfl)) (pgs_cons (pg_name (i := 3) scFewestStanding.nd rfl (Or.inl rfl)) pgs_nil)))) (fun _ _ _ _ _ => pts_nil) (fun _ _ _ _ _ => (pe_tup (pa_cons (pe_callB (r := rLen K) call_len_seq (by rfl) B.len boot_len (pa_cons (pv 2) pa_nil)) (pa_cons (pv 3) pa_nil))))) pa_nil))))), ?_⟩
    refine un_seq ⟨_, rfl, _, rfl, v, p, w, so, rfl, hv, W, hs, O, fun H0 e0 => ?_⟩
    have hv0 := hv.mono (tup_of e0)
    have hs0 := hs.mono (tup_of e0)
    have hsl := SetOk.len O
    have hW := W.le
    dsimp only
    refine un_ret (un_cb (un_cons (rd_lcI (S := SP) (PL := RF w so) (fun _ => true) (fun q => (q.1.length, q.2)) (fun C kq => ⟨_, rfl, _, rfl, v, p, w, so, rfl, hv0, W, hs0, O, fun F kvs H1 e1 hn hR hF => kq kvs F H1 hR e1 hn hF⟩) (fun l hl => by have := rf_len hl (by omega); omega) sp_up (fun l hl T b q H2 N Kt hq e2 hT hb2 kn ky => ?_) (fun l hl D ys H2 e2 hD hys => ?_))))
    · refine ⟨T, _, rfl, SqT.of hT, rfl, _, _, rfl, _, _, rfl, rfl, rfl, ?_⟩
      dsimp only [tYes]
      rw [if_pos rfl]
      refine ⟨_, rfl, b, _, rfl, .inr (SqT.of hb2), _, rfl, by show 2 ≤ sizeLine; decide, fun t ht => ky rfl _ _ (same_new ht) ⟨t, rfl, ?_⟩⟩
      rw [upd_same, List.length_map]
    · rw [List.filter_eq_self.mpr (fun _ _ => rfl)] at hys
      obtain ⟨dp, hdp⟩ := (peaks_rch W O).dist O.asc
      have hpm := (hl.mem _ _).mpr hdp
      refine ⟨D, ys, _, rfl, SqL.of hD, fun z => ?_, hys, fun q t ht hq hmin => ?_⟩
      · rw [List.map_eq_nil_iff.mp z] at hpm
        cases hpm
      · obtain ⟨⟨u, d⟩, h1, rfl⟩ := List.mem_map.mp hq
        have hud := (hl.mem u d).mp h1
        have h2 := hmin _ (List.mem_map.mpr ⟨_, hpm, rfl⟩)
        have hle : u.length ≤ (peaksIn w so).length := by
          rcases h2 with z | z
          · exact Nat.le_of_lt z
          · exact Nat.le_of_eq z.1
        have hu := peaks_only W O hud.rch hle
        subst hu
        exact k d _ H2 (e0.trans e2) hud ⟨t, rfl, ht⟩
def spLeftWith : Sp := fun vs H Q _ => ∃ v p q w s ps, vs = [v, p, q] ∧ WebAt H v w ∧ WebOk w ∧ Ppl H p s ∧ SetOk w.length s ∧ Ppl H q ps ∧ SetOk w.length ps ∧
  ∀ x (L : List (List Nat)) H', Same H H' → L.Nodup → (∀ t, t ∈ L ↔ (Rch w s t ∧ ∀ y ∈ ps, y ∈ t) ∧ ∀ u, Rch w s u → (∀ y ∈ ps, y ∈ u) → t.length ≤ u.length) → LstT H' x L → Q x H'
theorem scLeftWith : FnScope ["web", "standing", "people", "some", "few", "here", "person"] ["web", "standing", "people"] (defScope sLeftWith) := ⟨rfl, rfl, rfl, by decide +kernel, rfl, by decide +kernel, by decide +kernel⟩
theorem ok_left_with (F : FnD K mg "left_with" sLeftWith) (B : Bt mg) (g_need_state : Fnc P w K mg base CX0 "need_state" 4 ["web", "standing"] spNeedState) (g_need_people : Fnc P w K mg base CX0 "need_people" 4 ["web", "people"] spNeedPeople) (g_reached_from : Fnc P w K mg base CX0 "reached_from" 2 ["web", "standing"] spReachedFrom) :
    Fnc P w K mg base CX0 "left_with" 5 ["web", "standing", "people"] spLeftWith := by
  refine fnc0 F scLeftWith (fun vs H Q E h => ?_) (fun _ _ _ _ _ _ us hl => match us, hl with | [_, _, _], _ => rfl) (fun f cdv A outer s H vs Q E hr h => ?_)
  · obtain ⟨v, p, q, w, s, ps, rfl, _⟩ := h
    rfl
  · obtain ⟨v, p, qv, w, so, ps, rfl, hv, W, hs, O, hq, OP, k⟩ := h
    refine ⟨_, (pss_cons (ps_expr (pe_fn (g_need_state.mono (by decide)) hr (pa_cons (pv 0) (pa_cons (pv 1) pa_nil))))
      (pss_cons (ps_expr (pe_fn (g_need_people.mono (by decide)) hr (pa_cons (pv 0) (pa_cons (pv 2) pa_nil))))
      (pss_cons (ps_setLc (i := 3) (own := [("here", 5)]) (g := gName 5) (tt := _) rfl scLeftWith.nd rfl rfl (sw_true rfl rfl rfl rfl) (pi_keysT2 (pe_fn (g_reached_from.mono (by decide)) hr (pa_cons (pv 0) (pa_cons (pv 1) pa_nil)))) (blkOk_by (N := ["web", "standing", "people", "some", "few", "here", "person"]) (sc := (defScope sLeftWith)) (by decide +kernel)) (fun _ _ _ _ _ => (pg_name (i := 5) scLeftWith.nd rfl (Or.inr rfl))) (fun _ _ _ _ _ => pts_one (pt_val (pe_callB (r := rAll K) (cr_all rfl) (by rfl) B.all boot_all (pa_cons (pe_lc (wi := iTup K _) (own := [("person", 6)]) (g := gName 6) (tt := tYes) rfl scLeftWith.nd (pi_tup (pv 2)) (blkOk_by (N := ["web", "standing", "people", "some", "few", "here", "person"]) (sc := relabel _ (dEnv (defScope sLeftWith))) (by decide +kernel)) (fun _ _ _ _ _ => (pg_name (i := 6) scLeftWith.nd rfl (Or.inl rfl))) (fun _ _ _ _ _ => pts_nil) (fun _ _ _ _ _ => (pe_cmpR (r := rIn K false) op_in_seq (pv 6) (pv 5) rfl))) pa_nil)))) (fun _ _ _ _ _ => (pv 5)))
      (pss_cons (ps_set (i := 4) scLeftWith.nd rfl (Or.inr rfl) (pe_ifExp (pt_cmpR (r := rNeD K) (op_neD hr.units) (pv 3) (pe_lst pa_nil) (nomark _)) (pe_callB (r := rMin K) (cr_min rfl) (by rfl) B.min boot_min (pa_cons (pe_lc (wi := iList K _) (own := [("here", 5)]) (g := gName 5) (tt := tYes) rfl scLeftWith.nd (pi_list (pv 3)) (blkOk_by (N := ["web", "standing", "people", "some", "few", "here", "person"]) (sc := (defScope sLeftWith)) (by decide +kernel)) (fun _ _ _ _ _ => (pg_name (i := 5) scLeftWith.nd rfl (Or.inl rfl))) (fun _ _ _ _ _ => pts_nil) (fun _ _ _ _ _ => (pe_callB (r := rLen K) call_len_seq (by rfl) B.len boot_len (pa_cons (pv 5) pa_nil)))) pa_nil)) pe_int))
      (pss_one (ps_ret (pe_callB (r := rSortedT K) (cr_sortedT (Nat.lt_of_le_of_lt (Nat.add_le_add_left (by decide) _) hr.units)) (by rfl) B.sorted boot_sorted (pa_cons (pe_lc (wi := iList K _) (own := [("here", 5)]) (g := gName 5) (tt := _) rfl scLeftWith.nd (pi_list (pv 3)) (blkOk_by (N := ["web", "standing", "people", "some", "few", "here", "person"]) (sc := (defScope sLeftWith)) (by decide +kernel)) (fun _ _ _ _ _ => (pg_name (i := 5) scLeftWith.nd rfl (Or.inl rfl))) (fun _ _ _ _ _ => pts_one (pt_cmpR (r := rEqD K) (op_eqD hr.units) (pe_callB (r := rLen K) call_len_seq (by rfl) B.len boot_len (pa_cons (pv 5) pa_nil)) (pv 4) (nomark _))) (fun _ _ _ _ _ => (pv 5))) pa_nil)))))))), ?_⟩
    refine un_seq ⟨_, rfl, _, rfl, v, p, w, so, rfl, hv, W, hs, O, fun H0 e0 => ?_⟩
    have hv0 := hv.mono (tup_of e0)
    have hs0 := hs.mono (tup_of e0)
    have hsl := SetOk.len O
    have hW := W.le
    dsimp only
    have hq0 := hq.mono (tup_of e0)
    refine un_seq ⟨_, rfl, _, rfl, v, qv, w, ps, rfl, hv0, hq0, OP, W.le, fun H1 e1 => ?_⟩
    replace hv0 := hv0.mono (tup_of e1)
    replace hs0 := hs0.mono (tup_of e1)
    replace hq0 := hq0.mono (tup_of e1)
    obtain ⟨qb, rfl, hqb⟩ := hq0
    have hpl := SetOk.len OP
    dsimp only
    refine un_seq (un_asg (rd_lcK (S := Ppl) (PL := RF w so) (fun z => ps.all fun y => z.1.contains y) (fun z => z.1) (fun C kq => ⟨_, rfl, _, rfl, v, p, w, so, rfl, hv0, W, hs0, O, fun F kvs H1 e1 hn hR hF => kq kvs F H1 hR e1 hn hF⟩) (fun l hl => by have := rf_len hl (by omega); omega) ppl_up (fun l hl b z H2 N Kt hz e2 hb2 kn ky => ?_) (fun l hl D ys H2 e2 hD hys => ?_)))
    · refine ⟨rfl, rd_allT (R := NI) (l := ps) (fun y => z.1.contains y) (src_ppl (by rfl) (e2 _ _ hqb)) (by omega) ni_up (fun x o H3 ho e3 r Kt kt => ?_) (fun H3 e3 => ⟨_, rfl, br rfl (fun h => ?_) (fun h => ?_)⟩)⟩
      · obtain rfl : x = nv o := r
        exact ⟨rfl, _, rfl, _, rfl, rIn_nat (e3 _ _ hb2) (kt H3 (Same.refl _))⟩
      · exact ⟨_, rfl, ky h _ _ e3 ⟨b, rfl, e3 _ _ hb2⟩⟩
      · exact kn h _ e3
    · generalize hLL : (l.filter fun z => ps.all fun y => z.1.contains y).map (fun z => z.1) = LL at hys
      have hnd : LL.Nodup := by
        rw [← hLL]
        exact hl.nd.sublist (List.filter_sublist.map _)
      have hmem : ∀ t, t ∈ LL ↔ Rch w so t ∧ ∀ y ∈ ps, y ∈ t := fun t => by
        rw [← hLL, List.mem_map]
        constructor
        · rintro ⟨⟨t', d⟩, h1, rfl⟩
          obtain ⟨h2, h3⟩ := List.mem_filter.mp h1
          exact ⟨((hl.mem _ _).mp h2).rch, fun y hy => List.contains_iff_mem.mp (List.all_eq_true.mp h3 y hy)⟩
        · rintro ⟨h1, h2⟩
          obtain ⟨d, hd⟩ := h1.dist O.asc
          exact ⟨(t, d), List.mem_filter.mpr ⟨(hl.mem _ _).mpr hd, List.all_eq_true.mpr fun y hy => List.contains_iff_mem.mpr (h2 y hy)⟩, rfl⟩
      have hLl : LL.length ≤ 128 := by
        have h1 := rf_len hl (by omega : so.length ≤ 7)
        have h2 : (l.filter fun z => ps.all fun y => z.1.contains y).length ≤ l.length := List.length_filter_le _ _
        rw [← hLL, List.length_map]
        omega
      have tail : ∀ (few : Nat) (H3 : Hp), Same H2 H3 → (∀ t ∈ LL, (t.length = few ↔ ∀ u ∈ LL, t.length ≤ u.length)) →
          tRet (tCB (rSortedT K) (tCons (tLc (iList K (tVar 3)) (gName 5) (tTest (tOp (rEqD K) (tCB (rLen K) (tCons (tVar 5) tNil)) (tVar 4))) (tVar 5) [5]) tNil)) { nx := fun _ H' => Q .non H', rt := Q } [some v, some p, some (.ref qb), some (.ref D), some (nv few), none, none] H3 := fun few H3 e3 hf => by
        refine un_ret (un_cb (un_cons (rd_lcL (R := Ppl) (S := Ppl) (l := LL) (fun t => decide (t.length = few)) (fun t => t) (src_lst (by rfl) ⟨D, ys, rfl, e3 _ _ hD, paired_mono (fun _ _ => Ppl.mono (tup_of e3)) hys⟩) (by omega) ppl_up ppl_up (fun x t H4 N Kt ht e4 r kn ky => ?_) (fun D2 ys2 H4 e4 hD2 hys2 => ?_))))
        · obtain ⟨tb, rfl, htb⟩ := r
          refine ⟨rfl, _, rfl, tb, _, rfl, .inr (SqT.of htb), _, rfl, ?_⟩
          rw [List.length_map]
          exact rEq_int ⟨_, rfl, br rfl (fun h => ⟨_, rfl, ky h _ _ (Same.refl _) ⟨tb, rfl, htb⟩⟩) (fun h => kn h _ (Same.refl _))⟩
        · rw [List.map_id'] at hys2
          refine rd_sorted hD2 hys2 fun x m H5 e5 hm hx => k x m H5 (e0.trans (e1.trans (e2.trans (e3.trans (e4.trans e5))))) (hm.nodup_iff.mpr (hnd.sublist List.filter_sublist)) (fun t => ?_) hx
          rw [hm.mem_iff, List.mem_filter, decide_eq_true_eq]
          constructor
          · rintro ⟨h1, h2⟩
            exact ⟨(hmem t).mp h1, fun u h3 h4 => (hf t h1).mp h2 u ((hmem u).mpr ⟨h3, h4⟩)⟩
          · rintro ⟨h1, h2⟩
            have h3 := (hmem t).mpr h1
            exact ⟨h3, (hf t h3).mpr fun u hu => h2 u ((hmem u).mp hu).1 ((hmem u).mp hu).2⟩
      refine un_seq ⟨_, rfl, Nat.zero_le _, fun eq heq => rNe_lstT (l := LL) (m := []) ⟨D, ys, rfl, same_new heq _ _ hD, paired_mono (fun _ _ => Ppl.mono (tup_of (same_new heq))) hys⟩ ⟨eq, [], rfl, upd_same, .nil⟩ ⟨_, rfl, br rfl (fun h => ?_) (fun h => ?_)⟩⟩
      · have hne : LL ≠ [] := by simpa using h
        have e3 := same_new (o := .lst []) heq
        refine un_cb (un_cons (rd_mapL (R := Ppl) (S := NI) (l := LL) List.length (src_lst (by rfl) ⟨D, ys, rfl, e3 _ _ hD, paired_mono (fun _ _ => Ppl.mono (tup_of e3)) hys⟩) (by omega) ppl_up ni_up (fun x t H4 Kt ht e4 r ky => ?_) (fun D2 ys2 H4 e4 hD2 hys2 => ?_)))
        · obtain ⟨tb, rfl, htb⟩ := r
          refine ⟨rfl, _, rfl, tb, _, rfl, .inr (SqT.of htb), ?_⟩
          rw [List.length_map]
          exact ky _ _ (Same.refl _) rfl
        · have e5 : ys2 = (cI (LL.map List.length)).map V.int := by
            rw [cI_tv, paired_eq nv hys2]
          refine ⟨D2, cI (LL.map List.length), rfl, SqL.of (by rw [← e5]; exact hD2), by rw [List.length_map, List.length_map]; exact List.length_pos_iff.mpr hne, fun m hm hmin => ?_⟩
          obtain ⟨m0, hm0, rfl⟩ := List.mem_map.mp hm
          obtain ⟨t0, ht0, rfl⟩ := List.mem_map.mp hm0
          have hmin2 : ∀ u ∈ LL, t0.length ≤ u.length := fun u hu => by
            have := hmin _ (List.mem_map.mpr ⟨_, List.mem_map.mpr ⟨u, hu, rfl⟩, rfl⟩)
            omega
          exact tail t0.length H4 (e3.trans e4) fun t ht => ⟨fun z u hu => by rw [z]; exact hmin2 u hu, fun z => Nat.le_antisymm (z t0 ht0) (hmin2 t ht)⟩
      · have hl0 : LL = [] := by simpa using h
        exact tail 0 _ (same_new heq) fun t ht => by
          rw [hl0] at ht
          cases ht
def spNearestEnds : Sp := fun vs H Q _ => ∃ v p w s, vs = [v, p] ∧ WebAt H v w ∧ WebOk w ∧ Ppl H p s ∧ SetOk w.length s ∧
  ∀ x (L : List (List Nat)) H', Same H H' → (∀ t, t ∈ L ↔ ∃ d, Dist w s t d ∧ apart w t = true ∧ ∀ u e, Dist w s u e → apart w u = true → d ≤ e) → LstT H' x L → Q x H'
theorem scNearestEnds : FnScope ["web", "standing", "some", "few", "here", "many"] ["web", "standing"] (defScope sNearestEnds) := ⟨rfl, rfl, rfl, by decide +kernel, rfl, by decide +kernel, by decide +kernel⟩
theorem ok_nearest_ends (F : FnD K mg "nearest_ends" sNearestEnds) (B : Bt mg) (g_need_state : Fnc P w K mg base CX0 "need_state" 4 ["web", "standing"] spNeedState) (g_reached_from : Fnc P w K mg base CX0 "reached_from" 2 ["web", "standing"] spReachedFrom) (g_apart_in : Fnc P w K mg base CX0 "apart_in" 1 ["web", "people"] spApartIn) :
    Fnc P w K mg base CX0 "nearest_ends" 5 ["web", "standing"] spNearestEnds := by
  refine fnc0 F scNearestEnds (fun vs H Q E h => ?_) (fun _ _ _ _ _ _ us hl => match us, hl with | [_, _], _ => rfl) (fun f cdv A outer s H vs Q E hr h => ?_)
  · obtain ⟨v, p, w, s, rfl, _⟩ := h
    rfl
  · obtain ⟨v, p, w, so, rfl, hv, W, hs, O, k⟩ := h
    refine ⟨_, (pss_cons (ps_expr (pe_fn (g_need_state.mono (by decide)) hr (pa_cons (pv 0) (pa_cons (pv 1) pa_nil))))
      (pss_cons (ps_set (i := 2) scNearestEnds.nd rfl (Or.inr rfl) (pe_dcT (Nat.lt_of_le_of_lt (Nat.add_le_add_left (by decide) _) hr.units) (own := [("here", 4), ("many", 5)]) (g := gTup K 2 (gCons (gName 4) (gCons (gName 5) gNil))) rfl scNearestEnds.nd (pi_itemsT (pe_fn (g_reached_from.mono (by decide)) hr (pa_cons (pv 0) (pa_cons (pv 1) pa_nil)))) (blkOk_by (N := ["web", "standing", "some", "few", "here", "many"]) (sc := (defScope sNearestEnds)) (by decide +kernel)) (fun _ _ _ _ _ => pg_tup rfl (pgs_cons (pg_name (i := 4) scNearestEnds.nd rfl (Or.inl rfl)) (pgs_cons (pg_name (i := 5) scNearestEnds.nd rfl (Or.inl rfl)) pgs_nil))) (fun _ _ _ _ _ => pts_one (pt_val (pe_fn (g_apart_in.mono (by decide)) hr (pa_cons (pv 0) (pa_cons (pv 4) pa_nil))))) (fun _ _ _ _ _ => (pv 4)) (fun _ _ _ _ _ => (pv 5))))
      (pss_cons (ps_set (i := 3) scNearestEnds.nd rfl (Or.inr rfl) (pe_callB (r := rMin K) (cr_min rfl) (by rfl) B.min boot_min (pa_cons (pe_callTy (r := rListV) (call_list_vals rfl) (by rfl) B.list boot_list (pa_cons (pe_bm0 PySem.F.plainAttrs_dict PySem.F.slot_dict_values PySem.F.type_dict_values mt_valuesT (pv 2)) pa_nil)) pa_nil)))
      (pss_one (ps_ret (pe_callB (r := rSortedT K) (cr_sortedT (Nat.lt_of_le_of_lt (Nat.add_le_add_left (by decide) _) hr.units)) (by rfl) B.sorted boot_sorted (pa_cons (pe_lc (own := [("here", 4)]) (g := gName 4) (tt := _) rfl scNearestEnds.nd (pi_keysT2 (pv 2)) (blkOk_by (N := ["web", "standing", "some", "few", "here", "many"]) (sc := (defScope sNearestEnds)) (by decide +kernel)) (fun _ _ _ _ _ => (pg_name (i := 4) scNearestEnds.nd rfl (Or.inl rfl))) (fun _ _ _ _ _ => pts_one (pt_cmpR (r := rEqD K) (op_eqD hr.units) (pe_dget (hu_of hr) (pv 2) (pv 4) (fun _ _ => rfl)) (pv 3) (nomark _))) (fun _ _ _ _ _ => (pv 4))) pa_nil))))))), ?_⟩
    refine un_seq ⟨_, rfl, _, rfl, v, p, w, so, rfl, hv, W, hs, O, fun H0 e0 => ?_⟩
    have hv0 := hv.mono (tup_of e0)
    have hs0 := hs.mono (tup_of e0)
    have hsl := SetOk.len O
    have hW := W.le
    dsimp only
    refine un_seq (un_asg (rd_dcI (PL := RF w so) (fun q => apart w q.1) (fun C kq => ⟨_, rfl, _, rfl, v, p, w, so, rfl, hv0, W, hs0, O, fun F kvs H1 e1 hn hR hF => kq kvs F H1 hR e1 hn hF⟩) (fun l hl => ⟨by have := rf_len hl (by omega); omega, hl.nd⟩) (fun _ _ => rfl) (fun _ _ => rfl) (fun _ _ => rfl) (fun l hl b q H2 hq e2 hb2 G hG => ?_) (fun l hl F H2 hFn e2 hF => ?_)))
    · have ho := okT_of O (by omega) ((hl.mem _ _).mp hq).rch
      exact ⟨_, rfl, _, rfl, v, _, w, q.1, rfl, hv0.mono (tup_of e2), ⟨b, rfl, hb2⟩, ho.1, ho.2, fun H3 e3 => ⟨_, rfl, hG H3 e3⟩⟩
    have hM : ∀ t d, (t, d) ∈ l.filter (fun q => apart w q.1) ↔ Dist w so t d ∧ apart w t = true := fun t d => by
      rw [List.mem_filter, hl.mem]
    have hnd : ((l.filter fun q => apart w q.1).map (·.1)).Nodup := hl.nd.sublist (List.filter_sublist.map _)
    have hll : (l.filter fun q => apart w q.1).length ≤ 128 := by
      have h1 := rf_len hl (by omega : so.length ≤ 7)
      have h2 : (l.filter fun q => apart w q.1).length ≤ l.length := List.length_filter_le _ _
      omega
    have hne : l.filter (fun q => apart w q.1) ≠ [] := fun z => by
      obtain ⟨d, hd⟩ := (peaks_rch W O).dist O.asc
      have := (hM _ _).mpr ⟨hd, peaks_apart W O⟩
      rw [z] at this
      cases this
    generalize l.filter (fun q => apart w q.1) = E0 at hF hM hnd hll hne
    refine un_seq ⟨_, rfl, .inr (.inr (.inl ⟨rfl, .inr ⟨_, hF⟩⟩)), F, _, rfl, rfl, hF, fun pv0 hpv => ?_⟩
    have e3 := same_new (o := valsO pv0 F) hpv
    refine ⟨pv0, F, _, rfl, upd_same, e3 _ _ hF, fun D hD => ?_⟩
    have e4 := same_new (o := .lst ((kvN E0).map (·.2))) hD
    have hval : (kvN E0).map (·.2) = (cI (E0.map (·.2))).map V.int := by
      rw [cI_tv, List.map_map]
      show _ = (E0.map (·.2)).map nv
      rw [List.map_map]
      rfl
    refine ⟨D, cI (E0.map (·.2)), rfl, SqL.of (by rw [← hval]; exact upd_same), by rw [List.length_map, List.length_map]; exact List.length_pos_iff.mpr hne, fun m hm hmin => ?_⟩
    obtain ⟨m0, hm0, rfl⟩ := List.mem_map.mp hm
    obtain ⟨⟨t0, d0⟩, ht0, rfl⟩ := List.mem_map.mp hm0
    have hmin2 : ∀ u e, Dist w so u e → apart w u = true → d0 ≤ e := fun u e h1 h2 => by
      have := hmin _ (List.mem_map.mpr ⟨_, List.mem_map.mpr ⟨(u, e), (hM u e).mpr ⟨h1, h2⟩, rfl⟩, rfl⟩)
      omega
    have e24 := e2.trans (e3.trans e4)
    refine un_ret (un_cb (un_cons (rd_lcK2 (S := Ppl) (F := F) (l := E0) (Hb := H0) (fun q => decide (q.2 = d0)) (fun q => q.1) (by rfl) (e4 _ _ (e3 _ _ hF)) hFn e24 (by omega) ppl_up (fun ob b q H5 N Kt hq e5 hF5 hb5 kn ky => ?_) (fun D2 ys H5 e5 hD2 hys => ?_))))
    · exact ⟨rfl, _, rfl, _, rfl, F, nv q.2, rfl, .inr ⟨_, keyN q.1, b, .inr ⟨ob, hF5⟩, rfl, by rw [keyN_kV]; exact hb5, (valV_mem hnd hq).symm⟩, _, rfl, rEq_int ⟨_, rfl, br rfl (fun h => ⟨_, rfl, ky h _ _ (Same.refl _) ⟨b, rfl, hb5⟩⟩) (fun h => kn h _ (Same.refl _))⟩⟩
    · refine rd_sorted hD2 hys fun x L H6 e6 hL hx => k x L H6 (e0.trans (e5.trans e6)) (fun t => ?_) hx
      rw [hL.mem_iff, List.mem_map]
      constructor
      · rintro ⟨⟨t', d⟩, h1, rfl⟩
        obtain ⟨h2, h3⟩ := List.mem_filter.mp h1
        obtain ⟨h4, h5⟩ := (hM _ _).mp h2
        have h6 : d = d0 := of_decide_eq_true h3
        subst h6
        exact ⟨d, h4, h5, hmin2⟩
      · rintro ⟨d, h1, h2, h3⟩
        have h4 := (hM t0 d0).mp ht0
        have h5 : d = d0 := Nat.le_antisymm (h3 t0 d0 h4.1 h4.2) (hmin2 t d h1 h2)
        exact ⟨(t, d), List.mem_filter.mpr ⟨(hM t d).mpr ⟨h1, h2⟩, decide_eq_true h5⟩, rfl⟩
end
end Ts



set_option Elab.async false
set_option linter.all false
set_option maxRecDepth 100000
set_option maxHeartbeats 4000000
namespace Ts
open PySem PySem.Spec PyProof.Rows L2 Tm
/-- all but the object at R stay -/
def ExtR (R : Addr) (H H' : Hp) : Prop := ∀ b o, b ≠ R → H b = some o → H' b = some o
theorem ExtR.refl (R : Addr) (H : Hp) : ExtR R H H := fun _ _ _ h => h
theorem ExtR.trans {R : Addr} {H H1 H2 : Hp} (a : ExtR R H H1) (b : ExtR R H1 H2) : ExtR R H H2 := fun c o n h => b c o n (a c o n h)
theorem ExtR.of {R : Addr} {H H' : Hp} (e : Same H H') : ExtR R H H' := fun b o _ h => e b o h
theorem ExtR.upd {R : Addr} {H : Hp} {o : HO} : ExtR R H (upd H R o) := fun b u n h => by
  rw [upd_ne n]
  exact h
/-- .. the tables too may change -/
def ExtRN (R : Addr) (H H' : Hp) : Prop := ∀ b o, b ≠ R → H b = some o → (∀ ps, o ≠ .tbl ps) → H' b = some o
theorem ExtRN.refl (R : Addr) (H : Hp) : ExtRN R H H := fun _ _ _ h _ => h
theorem ExtRN.trans {R : Addr} {H H1 H2 : Hp} (a : ExtRN R H H1) (b : ExtRN R H1 H2) : ExtRN R H H2 := fun c o n h t => b c o n (a c o n h t) t
theorem ExtR.toN {R : Addr} {H H' : Hp} (e : ExtR R H H') : ExtRN R H H' := fun b o n h _ => e b o n h
def ScrAt (K : PySem.W.Frag) (H : Hp) (R S : Addr) (xs : List V) : Prop := ∀ H', ExtRN R H H' → SqL K H' S xs
/-- the row of the law's draws at R over the script at S -/
def RowAt (K : PySem.W.Frag) (H : Hp) (R S : Addr) (ns : List Int) : Prop := (∃ i1 i2 i3 : Int, 0 ≤ i1 ∧ H R = some (.lst [.ref S, .int i1, .int i2, .int i3])) ∧ ScrAt K H R S (ns.map V.int)
theorem RowAt.lst {K : PySem.W.Frag} {H : Hp} {R S : Addr} {ns : List Int} (h : RowAt K H R S ns) : ∃ xs, H R = some (.lst xs) := let ⟨⟨_, _, _, _, h⟩, _⟩ := h; ⟨_, h⟩
theorem RowAt.ext {K : PySem.W.Frag} {H H' : Hp} {R S : Addr} {ns : List Int} (h : RowAt K H R S ns) (e : Same H H') : RowAt K H' R S ns := by
  obtain ⟨⟨i1, i2, i3, h0, h1⟩, h2⟩ := h
  exact ⟨⟨i1, i2, i3, h0, e _ _ h1⟩, fun H2 e2 => h2 H2 ((ExtR.of e).toN.trans e2)⟩
theorem RowAt.put {K : PySem.W.Frag} {H : Hp} {R S : Addr} {ns : List Int} (h : RowAt K H R S ns) {i1 i2 i3 : Int} (h0 : 0 ≤ i1) : RowAt K (upd H R (.lst [.ref S, .int i1, .int i2, .int i3])) R S ns :=
  ⟨⟨i1, i2, i3, h0, upd_same⟩, fun H2 e2 => h.2 H2 (ExtR.upd.toN.trans e2)⟩
theorem rd_ix {K : PySem.W.Frag} {R : Addr} {xs : List V} {v : V} {i j : Nat} {σ : L2.St} {H : Hp} {Q : VK} (h0 : σ[i]? = some (some (.ref R))) (hR : H R = some (.lst xs)) (hj : xs[j]? = some v) (q : Q v H) : tOp (rIxL K) (tVar i) (tC (.int (j : Int))) σ H Q :=
  ⟨_, h0, R, xs, (j : Int), v, rfl, rfl, SqL.of hR, atI_nat hj, q⟩
theorem mod_nv {x : Int} {m : Nat} (hm : 1 ≤ m) {F : V → Prop} (k : ∀ r, r < m → F (nv r)) : F (.int (x % (m : Int))) := by
  have h1 : 0 ≤ x % (m : Int) := Int.emod_nonneg _ (by omega)
  have h2 : x % (m : Int) < m := Int.emod_lt_of_pos _ (by omega)
  have h3 : x % (m : Int) = ((x % (m : Int)).toNat : Int) := (Int.toNat_of_nonneg h1).symm
  rw [h3]
  exact k _ (by omega)
section
variable {P : Program} {w : World} {K : PySem.W.Frag} {mg : Str → Option Value} {base : Heap}
def spLawTaken (K : PySem.W.Frag) : Sp := fun vs H Q _ => ∃ R S ns m, vs = [.ref R, nv m] ∧ 1 ≤ m ∧ m ≤ 1000 ∧ RowAt K H R S ns ∧ ∀ r H', r < m → ExtR R H H' → RowAt K H' R S ns → Q (nv r) H'
theorem scLawTaken : FnScope ["_law_row", "_law_many", "_law_found", "_law_cell"] ["_law_row", "_law_many"] (defScope sLawTaken) := ⟨rfl, rfl, rfl, by decide +kernel, rfl, by decide +kernel, by decide +kernel⟩
theorem ok__law_taken (F : FnD K mg "_law_taken" sLawTaken) (B : Bt mg) :
    Fnc P w K mg base CX0 "_law_taken" 1 ["_law_row", "_law_many"] (spLawTaken K) := by
  refine fnc0 F scLawTaken (fun vs H Q E h => ?_) (fun _ _ _ _ _ _ us hl => match us, hl with | [_, _], _ => rfl) (fun f cdv A outer s H vs Q E hr h => ?_)
  · obtain ⟨R, S, ns, m, rfl, _⟩ := h
    rfl
  · obtain ⟨R, S, ns, m, rfl, hm1, hm2, hrow, k⟩ := h
    refine ⟨_, (pss_cons (ps_if (pt_cmpR op_gt (pe_ix (r := rIxL K) ix_list (pv 0) pe_int (fun _ _ => rfl)) pe_int (nomark _)) (pss_cons (ps_set (i := 2) scLawTaken.nd rfl (Or.inl rfl) (pe_op op_mod (pe_callTy call_int1 (by rfl) B.int boot_int (pa_cons (pe_ix (r := rIxL K) ix_list (pv 0) pe_int (fun _ _ => rfl)) pa_nil)) (pv 1)))
      (pss_cons (ps_asg (pe_op op_fdiv (pe_ix (r := rIxL K) ix_list (pv 0) pe_int (fun _ _ => rfl)) (pv 1)) (pg_sub (pv 0) pe_int set_list))
      (pss_one (ps_ret (pv 2))))) pss_nil)
      (pss_cons (ps_asg (pe_op op_add (pe_ix (r := rIxL K) ix_list (pv 0) pe_int (fun _ _ => rfl)) pe_int) (pg_sub (pv 0) pe_int set_list))
      (pss_cons (ps_if (pt_cmpR op_gt (pe_ix (r := rIxL K) ix_list (pv 0) pe_int (fun _ _ => rfl)) (pe_callB (r := rLen K) call_len_seq (by rfl) B.len boot_len (pa_cons (pe_ix (r := rIxL K) ix_list (pv 0) pe_int (fun _ _ => rfl)) pa_nil)) (nomark _)) (pss_cons (ps_asg (pe_op op_mod (pe_callTy call_int1 (by rfl) B.int boot_int (pa_cons (pe_op op_add (pe_op op_mul (pe_ix (r := rIxL K) ix_list (pv 0) pe_int (fun _ _ => rfl)) pe_int) pe_int) pa_nil)) pe_int) (pg_sub (pv 0) pe_int set_list))
      (pss_one (ps_ret (pe_op op_mod (pe_callTy call_int1 (by rfl) B.int boot_int (pa_cons (pe_op op_fdiv (pe_ix (r := rIxL K) ix_list (pv 0) pe_int (fun _ _ => rfl)) pe_int) pa_nil)) (pv 1))))) pss_nil)
      (pss_cons (ps_set (i := 3) scLawTaken.nd rfl (Or.inl rfl) (pe_ix (r := rIxL K) ix_list (pe_ix (r := rIxL K) ix_list (pv 0) pe_int (fun _ _ => rfl)) (pe_op op_sub (pe_ix (r := rIxL K) ix_list (pv 0) pe_int (fun _ _ => rfl)) pe_int) (fun _ _ => rfl)))
      (pss_cons (ps_asg (pe_op op_mod (pe_callTy call_int1 (by rfl) B.int boot_int (pa_cons (pe_op op_add (pe_op op_add (pe_op op_mul (pe_ix (r := rIxL K) ix_list (pv 0) pe_int (fun _ _ => rfl)) pe_int) (pv 3)) pe_int) pa_nil)) pe_int) (pg_sub (pv 0) pe_int set_list))
      (pss_cons (ps_if (pt_cmpR op_ge (pv 3) (pe_op op_pow pe_int pe_int) (nomark _)) (pss_one (ps_asg (pe_op op_fdiv (pv 3) (pv 1)) (pg_sub (pv 0) pe_int set_list))) pss_nil)
      (pss_one (ps_ret (pe_op op_mod (pe_callTy call_int1 (by rfl) B.int boot_int (pa_cons (pv 3) pa_nil)) (pv 1)))))))))), ?_⟩
    obtain ⟨⟨i1, i2, i3, h0, hR⟩, hS⟩ := hrow
    have hrow : RowAt K H R S ns := ⟨⟨i1, i2, i3, h0, hR⟩, hS⟩
    refine un_seq (rd_ix (j := 3) rfl hR rfl ⟨_, _, rfl, rfl, _, rfl, br rfl (fun h => ?_) (fun h => ?_)⟩)
    · refine un_seq (rd_ix (j := 3) rfl hR rfl (.inl ⟨_, rfl, _, rfl, _, _, rfl, rfl, (by omega : (0 : Int) < m), ?_⟩))
      refine un_seq (rd_ix (j := 3) rfl hR rfl ⟨_, rfl, _, _, rfl, rfl, ⟨by omega, by omega⟩, _, rfl, R, _, 3, 3, rfl, rfl, hR, rfl, ?_⟩)
      refine ⟨_, rfl, mod_nv (F := fun v => Q v _) hm1 fun r hr => k r _ hr ExtR.upd (hrow.put h0)⟩
    · refine un_seq (rd_ix (j := 1) rfl hR rfl ⟨_, _, rfl, rfl, _, rfl, R, _, 1, 1, rfl, rfl, hR, rfl, ?_⟩)
      have hrow1 : RowAt K (upd H R (.lst [.ref S, .int (i1 + 1), .int i2, .int i3])) R S ns := hrow.put (by omega)
      have e1 : ExtR R H (upd H R (.lst [.ref S, .int (i1 + 1), .int i2, .int i3])) := ExtR.upd
      have hR1 : (upd H R (.lst [.ref S, .int (i1 + 1), .int i2, .int i3])) R = some (.lst [.ref S, .int (i1 + 1), .int i2, .int i3]) := upd_same
      show tSeq _ _ _ _ (upd H R (.lst [.ref S, .int (i1 + 1), .int i2, .int i3]))
      generalize upd H R (.lst [.ref S, .int (i1 + 1), .int i2, .int i3]) = H1 at hrow1 e1 hR1
      refine un_seq (rd_ix (j := 1) rfl hR1 rfl (rd_ix (j := 0) rfl hR1 rfl ⟨S, _, rfl, .inl (hrow1.2 _ (ExtRN.refl _ _)), _, _, rfl, rfl, _, rfl, br rfl (fun h => ?_) (fun h => ?_)⟩))
      · refine un_seq (rd_ix (j := 2) rfl hR1 rfl ⟨_, _, rfl, rfl, .inr ⟨by decide, by decide⟩, _, _, rfl, rfl, .inl ⟨_, rfl, _, _, rfl, rfl, (by decide : (0 : Int) < 2147483647), _, rfl, R, _, 2, 2, rfl, rfl, hR1, rfl, ?_⟩⟩)
        refine rd_ix (j := 2) rfl upd_same rfl ⟨_, _, rfl, rfl, ⟨by decide, by decide⟩, .inl ⟨_, rfl, _, rfl, _, _, rfl, rfl, (by omega : (0 : Int) < m), ?_⟩⟩
        exact mod_nv (F := fun v => Q v _) hm1 fun r hr => k r _ hr (e1.trans ExtR.upd) (hrow1.put (by omega))
      · have h2 : ¬ ((ns.map V.int).length : Int) < i1 + 1 := of_decide_eq_false h
        rw [List.length_map] at h2
        obtain ⟨c, hc⟩ : ∃ c, ns[i1.toNat]? = some c := ⟨_, List.getElem?_eq_getElem (by omega)⟩
        have hc2 : (ns.map V.int)[i1.toNat]? = some (.int c) := by rw [List.getElem?_map, hc]; rfl
        have hat : atI (ns.map V.int) (i1 + 1 - 1) = some (.int c) := by
          have e : i1 + 1 - 1 = ((i1.toNat : Nat) : Int) := by omega
          rw [e]
          exact atI_nat hc2
        refine un_seq (rd_ix (j := 0) rfl hR1 rfl (rd_ix (j := 1) rfl hR1 rfl ⟨_, _, rfl, rfl, S, _, _, _, rfl, rfl, hrow1.2 _ (ExtRN.refl _ _), hat, ?_⟩))
        refine un_seq (rd_ix (j := 2) rfl hR1 rfl ⟨_, _, rfl, rfl, .inr ⟨by decide, by decide⟩, _, rfl, _, _, rfl, rfl, _, _, rfl, rfl, .inl ⟨_, rfl, _, _, rfl, rfl, (by decide : (0 : Int) < 2147483647), _, rfl, R, _, 2, 2, rfl, rfl, hR1, rfl, ?_⟩⟩)
        have fin : ∀ H2, ExtR R H1 H2 → RowAt K H2 R S ns → Q (.int (c % (m : Int))) H2 := fun H2 e2 hr2 => mod_nv (F := fun v => Q v _) hm1 fun r hr => k r _ hr (e1.trans e2) hr2
        refine un_seq ⟨_, rfl, _, _, rfl, rfl, ⟨by decide, by decide, by decide⟩, _, _, rfl, rfl, _, rfl, br rfl (fun h => ?_) (fun h => ?_)⟩
        · refine ⟨_, rfl, _, rfl, _, _, rfl, rfl, ⟨by omega, by omega⟩, _, rfl, R, _, 3, 3, rfl, rfl, upd_same, rfl, ?_⟩
          exact ⟨_, rfl, .inl ⟨_, rfl, _, rfl, _, _, rfl, rfl, (by omega : (0 : Int) < m), fin _ (ExtR.upd.trans ExtR.upd) ((hrow1.put (by omega)).put (by omega))⟩⟩
        · exact ⟨_, rfl, .inl ⟨_, rfl, _, rfl, _, _, rfl, rfl, (by omega : (0 : Int) < m), fin _ ExtR.upd (hrow1.put (by omega))⟩⟩
end
end Ts



set_option Elab.async false
set_option linter.all false
set_option maxRecDepth 100000
set_option maxHeartbeats 4000000
namespace Ts
open PySem PySem.Spec PyProof.Rows L2 Tm
theorem tup_extR {R : Addr} {H H' : Hp} (h : ∃ xs, H R = some (.lst xs)) (e : ExtR R H H') : Tup H H' := fun a xs q => e a _ (fun z => by
  obtain ⟨ys, hy⟩ := h
  rw [z, hy] at q
  cases q) q
section
variable {K : PySem.W.Frag} {β : Type} {SB : Hp → V → β → Prop} {tt : TT} {te : TE} {ta : TA} {vs : List Nat} {σ : L2.St} {H1 : Hp} {Q : VK} {R S : Addr} {ns : List Int} {i : Nat}
theorem lc_row {lo n : Nat} (f : Nat → β) (hn : n ≤ 1000) (hrow : RowAt K H1 R S ns) (hS : ∀ H H' v b, Tup H H' → SB H v b → SB H' v b)
    (turn : ∀ (c : Nat) (H2 : Hp) (N : Hp → Prop) (Kt : VK), lo ≤ c → c < lo + n → ExtR R H1 H2 → RowAt K H2 R S ns → (∀ H3, ExtR R H2 H3 → RowAt K H3 R S ns → N H3) → (∀ y H3, ExtR R H2 H3 → RowAt K H3 R S ns → SB H3 y (f c) → Kt y H3) → TurnOk (gName i) tt te vs σ (nv c) H2 N Kt)
    (fin : ∀ D ys (l : List Nat) H2, l.Sublist (List.range' lo n) → H1 D = none → ExtR R H1 H2 → RowAt K H2 R S ns → H2 D = some (.lst ys) → Paired (SB H2) ys (l.map f) → Q (.ref D) H2) : LcBody (Itr lo n) (gName i) tt te vs σ H1 Q := by
  intro D hD
  have hDR : D ≠ R := fun z => by
    obtain ⟨xs, h⟩ := hrow.lst
    rw [z, h] at hD
    cases hD
  have up : ∀ {H : Hp} {o : HO}, ExtR R H1 H → ExtR R H1 (upd H D o) := fun {H o} e b u nb q => by
    rw [upd_ne (ne_of_none q hD)]
    exact e b u nb q
  have rowD : ∀ {H : Hp} {o : HO}, ExtR R H1 H → RowAt K H R S ns → RowAt K (upd H D o) R S ns := fun {H o} e h => by
    obtain ⟨⟨i1, i2, i3, h0, h1⟩, _⟩ := h
    exact ⟨⟨i1, i2, i3, h0, by rw [upd_ne (Ne.symm hDR)]; exact h1⟩, fun H2 e2 => hrow.2 H2 ((up e).toN.trans e2)⟩
  refine lc_range (lo := lo) (n := n) (fun i H => ∃ l : List Nat, l.Sublist (List.range' lo i) ∧ ExtR R H1 H ∧ RowAt K H R S ns ∧ ∃ acc, H D = some (.lst acc) ∧ Paired (SB H) acc (l.map f)) ⟨[], List.nil_sublist _, up (ExtR.refl _ _), rowD (ExtR.refl _ _) hrow, [], upd_same, .nil⟩ (fun i H hi P => ?_) (fun H P => ?_)
  · obtain ⟨l, hl, e, hr, acc, hacc, hp⟩ := P
    have ex : ((lo : Int) + (i : Nat)) = ((lo + i : Nat) : Int) := by omega
    rw [ex]
    have hrg : List.range' lo (i + 1) = List.range' lo i ++ [lo + i] := by
      rw [List.range'_concat]
      simp
    refine turn (lo + i) H _ _ (by omega) (by omega) e hr (fun H3 e3 hr3 => ?_) (fun y H3 e3 hr3 hy => ?_)
    · refine ⟨l, ?_, e.trans e3, hr3, acc, e3 _ _ hDR hacc, paired_mono (fun v b => hS _ _ v b (tup_extR hr.lst e3)) hp⟩
      rw [hrg]
      exact hl.trans (List.sublist_append_left _ _)
    · have hacc3 := e3 _ _ hDR hacc
      have la := paired_len hp
      have ll := hl.length_le
      rw [List.length_map] at la
      rw [List.length_range'] at ll
      have tu : Tup H3 (upd H3 D (.lst (acc ++ [y]))) := tup_upd hacc3 (fun _ z => by cases z)
      refine ⟨acc, hacc3, by rw [sizeLine_eq]; omega, l ++ [lo + i], ?_, up (e.trans e3), rowD (e.trans e3) hr3, _, upd_same, ?_⟩
      · rw [hrg]
        exact hl.append (List.Sublist.refl _)
      · rw [List.map_append]
        exact paired_snoc (hS _ _ y _ tu hy) (paired_mono (fun v b => hS _ _ v b ((tup_extR hr.lst e3).trans tu)) hp)
  · obtain ⟨l, hl, e, hr, acc, hacc, hp⟩ := P
    exact fin D acc l H hl hD e hr hacc hp
abbrev RowTurn (K : PySem.W.Frag) (SB : Hp → V → β → Prop) (f : Nat → β) (R S : Addr) (ns : List Int) (lo n : Nat) (g : TG) (tt : TT) (te : TE) (vs : List Nat) (σ : L2.St) (H1 : Hp) : Prop :=
  ∀ (c : Nat) (H2 : Hp) (N : Hp → Prop) (Kt : VK), lo ≤ c → c < lo + n → ExtR R H1 H2 → RowAt K H2 R S ns → (∀ H3, ExtR R H2 H3 → RowAt K H3 R S ns → N H3) → (∀ y H3, ExtR R H2 H3 → RowAt K H3 R S ns → SB H3 y (f c) → Kt y H3) → TurnOk g tt te vs σ (nv c) H2 N Kt
theorem rd_row1 {n : Nat} (f : Nat → β) (hta : ∀ C : List V → Hp → Prop, C [nv n] H1 → ta σ H1 C) (hn : n ≤ 1000) (hrow : RowAt K H1 R S ns) (hS : ∀ H H' v b, Tup H H' → SB H v b → SB H' v b) (turn : RowTurn K SB f R S ns 0 n (gName i) tt te vs σ H1)
    (fin : ∀ D ys (l : List Nat) H2, l.Sublist (List.range' 0 n) → H1 D = none → ExtR R H1 H2 → RowAt K H2 R S ns → H2 D = some (.lst ys) → Paired (SB H2) ys (l.map f) → Q (.ref D) H2) : tLc (iRng1 ta) (gName i) tt te vs σ H1 Q :=
  hta _ ⟨(n : Int), rfl, by omega, by omega, lc_row (lo := 0) f hn hrow hS turn fin⟩
theorem rd_row2 {lo hi : Nat} (f : Nat → β) (hta : ∀ C : List V → Hp → Prop, C [nv lo, nv hi] H1 → ta σ H1 C) (hn : lo ≤ 1000 ∧ hi ≤ 1000) (hrow : RowAt K H1 R S ns) (hS : ∀ H H' v b, Tup H H' → SB H v b → SB H' v b) (turn : RowTurn K SB f R S ns lo (hi - lo) (gName i) tt te vs σ H1)
    (fin : ∀ D ys (l : List Nat) H2, l.Sublist (List.range' lo (hi - lo)) → H1 D = none → ExtR R H1 H2 → RowAt K H2 R S ns → H2 D = some (.lst ys) → Paired (SB H2) ys (l.map f) → Q (.ref D) H2) : tLc (iRng2 ta) (gName i) tt te vs σ H1 Q :=
  hta _ ⟨(lo : Int), (hi : Int), rfl, ⟨by omega, by omega, by omega, by omega⟩, by
    rw [show ((hi : Int) - (lo : Int)).toNat = hi - lo from by omega]
    exact lc_row (lo := lo) f (by omega) hrow hS turn fin⟩
end
theorem range_succ' (n : Nat) : List.range (n + 1) = List.range n ++ [n] := List.range_succ
section
variable {P : Program} {w : World} {K : PySem.W.Frag} {mg : Str → Option Value} {base : Heap}
def spLawSets : Sp := fun vs H Q _ => ∃ m, vs = [nv m] ∧ m ≤ 7 ∧ ∀ D xs H', H D = none → Same H H' → H' D = some (.lst xs) → Paired (Ppl H') xs (choices (List.range m)) → Q (.ref D) H'
theorem scLawSets : FnScope ["_law_many", "_law_found", "_law_person", "_law_piece"] ["_law_many"] (defScope sLawSets) := ⟨rfl, rfl, rfl, by decide +kernel, rfl, by decide +kernel, by decide +kernel⟩
theorem ok__law_sets (F : FnD K mg "_law_sets" sLawSets) (B : Bt mg) :
    Fnc P w K mg base CX0 "_law_sets" 1 ["_law_many"] spLawSets := by
  refine fnc0 F scLawSets (fun vs H Q E h => ?_) (fun _ _ _ _ _ _ us hl => match us, hl with | [_], _ => rfl) (fun f cdv A outer s H vs Q E hr h => ?_)
  · obtain ⟨m, rfl, _⟩ := h
    rfl
  · obtain ⟨m, rfl, hm, k⟩ := h
    have cl : ∀ i, i ≤ 7 → (choices (List.range i)).length ≤ 128 := fun i hi => by
      rw [choices_len _ _ rfl, List.length_range]
      exact Nat.pow_le_pow_right (by decide) hi
    refine ⟨_, (pss_cons (ps_set (i := 1) scLawSets.nd rfl (Or.inl rfl) (pe_lst (pa_cons (pe_tup pa_nil) pa_nil)))
      (pss_cons (ps_for PassesOwn.never rfl (pi_range1 (by rfl) B.range (pa_cons (pv 0) pa_nil)) (pg_name (i := 2) scLawSets.nd rfl (Or.inr rfl)) (pss_one (ps_set (i := 1) scLawSets.nd rfl (Or.inl rfl) (pe_op op_cat (pv 1) (pe_lc (wi := iList K _) (own := [("_law_piece", 3)]) (g := gName 3) (tt := tYes) rfl scLawSets.nd (pi_list (pv 1)) (blkOk_by (N := ["_law_many", "_law_found", "_law_person", "_law_piece"]) (sc := (defScope sLawSets)) (by decide +kernel)) (fun _ _ _ _ _ => (pg_name (i := 3) scLawSets.nd rfl (Or.inl rfl))) (fun _ _ _ _ _ => pts_nil) (fun _ _ _ _ _ => (pe_op (r := rCatA K) op_catA (pv 3) (pe_tup (pa_cons (pv 2) pa_nil)))))))))
      (pss_one (ps_ret (pv 1))))), ?_⟩
    refine un_seq ⟨by show 0 ≤ sizeLine; decide, fun q hq => ⟨by show 1 ≤ sizeLine; decide, fun D0 hD0 => ?_⟩⟩
    have e0 : Same H (upd (upd H q (.tup [])) D0 (.lst [.ref q])) := (same_new hq).trans (same_new hD0)
    have hD0H : H D0 = none := none_of (same_new hq) hD0
    refine un_seq ⟨_, rfl, (m : Int), rfl, by omega, by omega, for_range (lo := 0) (n := m) (fun i σ H' => Same H H' ∧ ∃ u D xs, σ = [some (nv m), some (.ref D), u, none] ∧ H D = none ∧ H' D = some (.lst xs) ∧ Paired (Ppl H') xs (choices (List.range i))) ⟨e0, none, D0, [.ref q], rfl, hD0H, upd_same, .cons ⟨q, rfl, same_new hD0 _ _ upd_same⟩ .nil⟩ (fun i σ H' hi p => ?_) (fun σ H' p => ?_)⟩
    · obtain ⟨e, u, D, xs, rfl, hDn, hD, hp⟩ := p
      have ex : ((0 : Int) + (i : Nat)) = ((i : Nat) : Int) := Int.zero_add _
      rw [ex]
      have cl1 := cl i (by omega)
      have lx := paired_len hp
      refine ⟨_, rfl, rd_mapL (R := Ppl) (S := Ppl) (l := choices (List.range i)) (fun row => row ++ [i]) (src_lst (by rfl) ⟨D, xs, rfl, hD, hp⟩) (by omega) ppl_up ppl_up (fun x row H3 Kt hrow e3 r ky => ?_) (fun D2 ys H3 e3 hD2 hys => ?_)⟩
      · obtain ⟨ra, rfl, hra⟩ := r
        have lr : row.length ≤ 7 := Nat.le_trans (choices_mem.mp hrow).length_le (by rw [List.length_range]; omega)
        refine ⟨rfl, _, rfl, _, rfl, by show 1 ≤ sizeLine; decide, fun t ht => ⟨ra, t, tv row, [nv i], rfl, rfl, SqT.of (same_new ht _ _ hra), SqT.of upd_same, by rw [List.length_map, sizeLine_eq]; simp; omega, fun hz => ?_, fun _ z => absurd z (List.cons_ne_nil _ _), fun _ _ p hp2 => ?_⟩⟩
        · have hz2 : row = [] := List.map_eq_nil_iff.mp hz
          subst hz2
          exact ky _ _ (same_new ht) ⟨t, rfl, upd_same⟩
        · exact ky _ _ ((same_new ht).trans (same_new hp2)) ⟨p, rfl, by rw [upd_same, tv_app]⟩
      · have ly := paired_len hys
        rw [List.length_map] at ly
        refine ⟨D, D2, xs, ys, rfl, rfl, e3 _ _ hD, hD2, by rw [sizeLine_eq]; omega, fun D3 hD3 => ?_⟩
        have e4 := same_new (o := .lst (xs ++ ys)) hD3
        refine ⟨e.trans (e3.trans e4), _, D3, xs ++ ys, rfl, none_of (e.trans e3) hD3, upd_same, ?_⟩
        rw [range_succ', choices_snoc]
        exact paired_app (paired_mono (fun _ _ => Ppl.mono (tup_of (e3.trans e4))) hp) (paired_mono (fun _ _ => Ppl.mono (tup_of e4)) hys)
    · obtain ⟨e, u, D, xs, rfl, hDn, hD, hp⟩ := p
      exact ⟨_, rfl, k D xs H' hDn e hD hp⟩
def spLawPick (K : PySem.W.Frag) : Sp := fun vs H Q _ => ∃ R S ns D xs l, vs = [.ref R, .ref D] ∧ D ≠ R ∧ H D = some (.lst xs) ∧ Paired (Ppl H) xs l ∧ 1 ≤ l.length ∧ l.length ≤ 1000 ∧ RowAt K H R S ns ∧ ∀ x t H', t ∈ l → ExtR R H H' → RowAt K H' R S ns → Ppl H' x t → Q x H'
theorem scLawPick : FnScope ["_law_row", "_law_kinds"] ["_law_row", "_law_kinds"] (defScope sLawPick) := ⟨rfl, rfl, rfl, by decide +kernel, rfl, by decide +kernel, by decide +kernel⟩
theorem ok__law_pick (F : FnD K mg "_law_pick" sLawPick) (B : Bt mg) (g_law_taken : Fnc P w K mg base CX0 "_law_taken" 1 ["_law_row", "_law_many"] (spLawTaken K)) :
    Fnc P w K mg base CX0 "_law_pick" 2 ["_law_row", "_law_kinds"] (spLawPick K) := by
  refine fnc0 F scLawPick (fun vs H Q E h => ?_) (fun _ _ _ _ _ _ us hl => match us, hl with | [_, _], _ => rfl) (fun f cdv A outer s H vs Q E hr h => ?_)
  · obtain ⟨R, S, ns, D, xs, l, rfl, _⟩ := h
    rfl
  · obtain ⟨R, S, ns, D, xs, l, rfl, hDR, hD, hp, hl1, hl2, hrow, k⟩ := h
    have lx := paired_len hp
    refine ⟨_, (pss_one (ps_ret (pe_ix (r := rIxL K) ix_list (pv 1) (pe_fn (g_law_taken.mono (by decide)) hr (pa_cons (pv 0) (pa_cons (pe_callB (r := rLen K) call_len_seq (by rfl) B.len boot_len (pa_cons (pv 1) pa_nil)) pa_nil))) (fun _ _ => rfl)))), ?_⟩
    refine ⟨_, rfl, _, rfl, _, rfl, D, xs, rfl, .inl (SqL.of hD), R, S, ns, xs.length, rfl, by omega, by omega, hrow, fun r H' hr e hrow' => ?_⟩
    have hx : xs[r]? = some xs[r] := List.getElem?_eq_getElem hr
    obtain ⟨t, ht, hpt⟩ := paired_at hp hx
    exact ⟨D, xs, (r : Int), _, rfl, rfl, SqL.of (e _ _ hDR hD), atI_nat hx, k _ t H' (List.mem_of_getElem? ht) e hrow' (hpt.mono (tup_extR hrow.lst e))⟩
def spLawUp (K : PySem.W.Frag) : Sp := fun vs H Q _ => ∃ R S ns v w, vs = [.ref R, v] ∧ WebAt H v w ∧ WebOk w ∧ RowAt K H R S ns ∧ ∀ x s H', SetOk w.length s → ExtR R H H' → RowAt K H' R S ns → Ppl H' x s → Q x H'
theorem scLawUp : FnScope ["_law_row", "_law_web_here", "_law_rare", "_law_person"] ["_law_row", "_law_web_here"] (defScope sLawUp) := ⟨rfl, rfl, rfl, by decide +kernel, rfl, by decide +kernel, by decide +kernel⟩
theorem ok__law_up (F : FnD K mg "_law_up" sLawUp) (B : Bt mg) (g_law_taken : Fnc P w K mg base CX0 "_law_taken" 1 ["_law_row", "_law_many"] (spLawTaken K)) :
    Fnc P w K mg base CX0 "_law_up" 2 ["_law_row", "_law_web_here"] (spLawUp K) := by
  refine fnc0 F scLawUp (fun vs H Q E h => ?_) (fun _ _ _ _ _ _ us hl => match us, hl with | [_, _], _ => rfl) (fun f cdv A outer s H vs Q E hr h => ?_)
  · obtain ⟨R, S, ns, v, w, rfl, _⟩ := h
    rfl
  · obtain ⟨R, S, ns, v, w, rfl, hv, W, hrow, k⟩ := h
    have hW := W.le
    refine ⟨_, (pss_cons (ps_set (i := 2) scLawUp.nd rfl (Or.inr rfl) (pe_op op_add pe_int (pe_fn (g_law_taken.mono (by decide)) hr (pa_cons (pv 0) (pa_cons pe_int pa_nil)))))
      (pss_one (ps_ret (pe_callTy (r := rTuple K) call_tuple_of (by rfl) B.tuple boot_tuple (pa_cons (pe_lc (own := [("_law_person", 3)]) (g := gName 3) (tt := _) rfl scLawUp.nd (pi_range1 (by rfl) B.range (pa_cons (pe_callB (r := rLen K) call_len_seq (by rfl) B.len boot_len (pa_cons (pv 1) pa_nil)) pa_nil)) (blkOk_by (N := ["_law_row", "_law_web_here", "_law_rare", "_law_person"]) (sc := (defScope sLawUp)) (by decide +kernel)) (fun _ _ _ _ _ => (pg_name (i := 3) scLawUp.nd rfl (Or.inl rfl))) (fun _ _ _ _ _ => pts_one (pt_cmpR op_gt (pe_fn (g_law_taken.mono (by decide)) hr (pa_cons (pv 0) (pa_cons (pv 2) pa_nil))) pe_int (nomark _))) (fun _ _ _ _ _ => (pv 3))) pa_nil))))), ?_⟩
    refine un_seq ⟨_, rfl, R, S, ns, 4, rfl, by decide, by decide, hrow, fun r H1 hr e1 hrow1 => ⟨_, _, rfl, rfl, ?_⟩⟩
    have er : V.int (2 + (r : Int)) = nv (2 + r) := by
      show V.int _ = V.int _
      congr 1
    dsimp only
    rw [er]
    obtain ⟨a, xs, rfl, ha, hp⟩ := hv.mono (tup_extR hrow.lst e1)
    have hlen : xs.length = w.length := paired_len hp
    refine un_ret (un_cb (un_cons (rd_row1 (SB := NI) (n := xs.length) (fun c => c) (fun C kc => ⟨_, rfl, a, xs, rfl, .inr (SqT.of ha), kc⟩) (by omega) hrow1 ni_up (fun c H2 N Kt h1 h2 e2 hr2 kn ky => ?_) (fun D ys l H2 hl hDn e2 hr2 hD hys => ?_))))
    · refine ⟨rfl, _, rfl, _, rfl, R, S, ns, 2 + r, rfl, by omega, by omega, hr2, fun q H3 hq e3 hr3 => ⟨_, _, rfl, rfl, _, rfl, br rfl (fun h => ?_) (fun h => ?_)⟩⟩
      · exact ⟨_, rfl, ky _ _ e3 hr3 rfl⟩
      · exact kn _ e3 hr3
    · rw [List.map_id'] at hys
      have e : ys = tv l := paired_eq nv hys
      subst e
      rw [← List.range_eq_range'] at hl
      have hDR : D ≠ R := fun z => by
        obtain ⟨xs, h⟩ := hrow1.lst
        rw [z, h] at hDn
        cases hDn
      refine ⟨D, _, rfl, .inl ⟨SqL.of hD, fun t ht => k _ l _ ⟨List.pairwise_lt_range.sublist hl, fun p hp => ?_⟩ (e1.trans (e2.trans (ExtR.of (same_new ht)))) (hr2.ext (same_new ht)) ⟨t, rfl, upd_same⟩⟩⟩
      have := List.mem_range.mp (hl.subset hp)
      omega
end
end Ts



set_option Elab.async false
set_option linter.all false
set_option maxRecDepth 100000
set_option maxHeartbeats 4000000
namespace Ts
open PySem PySem.Spec PyProof.Rows L2 Tm
abbrev rowK (l : List Nat) : List (L2.Key × V) := l.map fun n : Nat => ((Sum.inl (n : Int) : L2.Key), V.bl true)
def put (l : List Nat) (n : Nat) : List Nat := if l.contains n = true then l else l ++ [n]
theorem mem_put {l : List Nat} {n x : Nat} : x ∈ put l n ↔ x ∈ l ∨ x = n := by
  unfold put
  split
  · rename_i h
    exact ⟨.inl, fun z => z.elim id fun e => by rw [e]; exact List.contains_iff_mem.mp h⟩
  · simp
theorem nodup_put {l : List Nat} {n : Nat} (h : l.Nodup) : (put l n).Nodup := by
  unfold put
  split
  · exact h
  · rename_i hn
    rw [List.nodup_append]
    refine ⟨h, by simp, fun a ha b hb => ?_⟩
    have e : b = n := by simpa using hb
    subst e
    exact fun z => hn (List.contains_iff_mem.mpr (z ▸ ha))
theorem rowK_has (l : List Nat) (n : Nat) : ((rowK l).any fun kv => decide (kv.1 = (Sum.inl (n : Int) : L2.Key))) = l.contains n := by
  rw [List.any_map]
  induction l with
  | nil => rfl
  | cons a l ih =>
    rw [List.any_cons, ih, List.contains_cons]
    congr 1
    show decide ((Sum.inl (a : Int) : L2.Key) = Sum.inl (n : Int)) = (n == a)
    by_cases e : a = n
    · subst e
      simp
    · rw [decide_eq_false fun z => e (by have := Sum.inl.inj z; omega)]
      exact (beq_eq_false_iff_ne.mpr fun z => e z.symm).symm
theorem rowK_put (l : List Nat) (n : Nat) : putK (rowK l) (Sum.inl (n : Int) : L2.Key) (V.bl true) = rowK (put l n) := by
  unfold putK put
  rw [rowK_has]
  by_cases h : l.contains n = true
  · rw [if_pos h, if_pos h]
    refine (List.map_congr_left fun kv hkv => ?_).trans (List.map_id _)
    obtain ⟨a, _, rfl⟩ := List.mem_map.mp hkv
    split
    · rfl
    · rfl
  · rw [if_neg h, if_neg h]
    show _ = List.map _ (l ++ [n])
    rw [List.map_append]
    rfl
theorem paired_choose {α β : Type} {P : V → β → Prop} {G : α → β → Prop} : ∀ {xs : List V} {l : List α}, Paired (fun v c => ∃ s, P v s ∧ G c s) xs l → ∃ w : List β, Paired P xs w ∧ w.length = l.length ∧ ∀ (i : Nat) (c : α), l[i]? = some c → ∃ s : β, w[i]? = some s ∧ G c s
  | _, _, .nil => ⟨[], .nil, rfl, fun i c h => by simp at h⟩
  | _, _, .cons r t => by
    obtain ⟨s, h1, h2⟩ := r
    obtain ⟨w, h3, h4, h5⟩ := paired_choose t
    refine ⟨s :: w, .cons h1 h3, by rw [List.length_cons, List.length_cons, h4], fun i c h => ?_⟩
    cases i with
    | zero =>
      cases Option.some.inj h
      exact ⟨s, rfl, h2⟩
    | succ i => exact h5 i c h
theorem paired_range {f : Nat → V} (n : Nat) : ∀ lo, Paired (fun v c => v = f c) ((List.range' lo n).map f) (List.range' lo n) := fun lo => paired_map f (fun _ => rfl) _
/-- [{} for .. in range(n)] -/
theorem rd_dicts {ta : TA} {i n : Nat} {vs : List Nat} {σ : L2.St} {H1 : Hp} {Q : VK} (hta : ∀ C : List V → Hp → Prop, C [nv n] H1 → ta σ H1 C) (hn : n ≤ 1000) (hw : ∀ x, wipe ((wipe σ vs).set i (some x)) vs = wipe σ vs)
    (fin : ∀ D (ds : List Addr) H2, Same H1 H2 → H1 D = none → ds.length = n → ds.Nodup → (∀ d ∈ ds, H1 d = none ∧ d ≠ D ∧ H2 d = some (.dK [])) → H2 D = some (.lst (ds.map V.ref)) → Q (.ref D) H2) : tLc (iRng1 ta) (gName i) tYes tDNewK vs σ H1 Q := by
  refine hta _ ⟨(n : Int), rfl, by omega, by omega, fun D hD => ?_⟩
  refine lc_range (lo := 0) (n := n) (fun j H => Same H1 H ∧ ∃ ds : List Addr, ds.length = j ∧ ds.Nodup ∧ (∀ d ∈ ds, H1 d = none ∧ d ≠ D ∧ H d = some (.dK [])) ∧ H D = some (.lst (ds.map V.ref))) ⟨same_new hD, [], rfl, List.nodup_nil, fun d hd => absurd hd (by simp), upd_same⟩ (fun j H hj P => ?_) (fun H P => ?_)
  · obtain ⟨e, ds, hl, hnd, hds, hDs⟩ := P
    refine ⟨hw _, ?_⟩
    dsimp only [tYes]
    rw [if_pos rfl]
    intro d hd
    have e2 := same_new (o := .dK []) hd
    have hdD : d ≠ D := fun z => by
      rw [z, hDs] at hd
      cases hd
    refine ⟨_, e2 _ _ hDs, by rw [List.length_map, sizeLine_eq]; omega, fun b o q => ?_, ds ++ [d], by rw [List.length_append, hl]; rfl, ?_, fun a ha => ?_, ?_⟩
    · rw [upd_ne (ne_of_none q hD)]
      exact e2 _ _ (e _ _ q)
    · rw [List.nodup_append]
      refine ⟨hnd, by simp, fun a ha b hb => ?_⟩
      have eb : b = d := by simpa using hb
      subst eb
      intro z
      subst z
      rw [(hds a ha).2.2] at hd
      cases hd
    · rcases List.mem_append.mp ha with z | z
      · obtain ⟨h1, h2, h3⟩ := hds a z
        exact ⟨h1, h2, by rw [upd_ne h2]; exact e2 _ _ h3⟩
      · have ea : a = d := by simpa using z
        subst ea
        exact ⟨none_of e hd, hdD, by rw [upd_ne hdD, upd_same]⟩
    · rw [upd_same, List.map_append]
      rfl
  · obtain ⟨e, ds, hl, hnd, hds, hDs⟩ := P
    exact fin D ds H e hD hl hnd hds hDs
def rListK : List V → Hp → VK → Prop := fun xs H Q => ∃ (a : Addr) (kvs : List (L2.Key × V)), xs = [.ref a] ∧ Rd H a (.dK kvs) ∧ ∀ p, H p = none → Q (.ref p) (upd H p (.lst (kvs.map fun kv => kV kv.1)))
/-- the rows of friends that the couples make -/
def Rows (cs : List (Nat × Nat)) (rows : Nat → List Nat) : Prop := (∀ i, (rows i).Nodup) ∧ ∀ i j, j ∈ rows i ↔ (i, j) ∈ cs ∨ (j, i) ∈ cs
theorem rows_step {cs : List (Nat × Nat)} {rows : Nat → List Nat} (h : Rows cs rows) {a b : Nat} (hab : a < b) : Rows (cs ++ [(a, b)]) (fun i => if i = b then put (rows b) a else if i = a then put (rows a) b else rows i) := by
  refine ⟨fun i => ?_, fun i j => ?_⟩
  · dsimp only
    split
    · exact nodup_put (h.1 _)
    · split
      · exact nodup_put (h.1 _)
      · exact h.1 _
  · dsimp only
    rw [List.mem_append, List.mem_append, List.mem_singleton, List.mem_singleton]
    have e1 : (i, j) = (a, b) ↔ i = a ∧ j = b := Prod.mk.injEq .. ▸ Iff.rfl
    have e2 : (j, i) = (a, b) ↔ j = a ∧ i = b := Prod.mk.injEq .. ▸ Iff.rfl
    rw [e1, e2]
    by_cases h1 : i = b
    · rw [if_pos h1, mem_put, h.2]
      subst h1
      constructor
      · rintro ((z | z) | z)
        · exact .inl (.inl z)
        · exact .inr (.inl z)
        · exact .inr (.inr ⟨z, rfl⟩)
      · rintro ((z | z) | (z | z))
        · exact .inl (.inl z)
        · omega
        · exact .inl (.inr z)
        · exact .inr z.1
    · rw [if_neg h1]
      by_cases h2 : i = a
      · rw [if_pos h2, mem_put, h.2]
        subst h2
        constructor
        · rintro ((z | z) | z)
          · exact .inl (.inl z)
          · exact .inr (.inl z)
          · exact .inl (.inr ⟨rfl, z⟩)
        · rintro ((z | z) | (z | z))
          · exact .inl (.inl z)
          · exact .inr z.2
          · exact .inl (.inr z)
          · exact absurd z.2 h1
      · rw [if_neg h2, h.2]
        constructor
        · rintro (z | z)
          · exact .inl (.inl z)
          · exact .inr (.inl z)
        · rintro ((z | z) | (z | z))
          · exact .inl z
          · exact absurd z.1 h2
          · exact .inr z
          · exact absurd z.2 h1
theorem nodup_get {ds : List Addr} (h : ds.Nodup) {i j : Nat} (hi : i < ds.length) (hj : j < ds.length) (e : ds.getD i 0 = ds.getD j 0) : i = j := by
  rw [List.getD_eq_getElem?_getD, List.getD_eq_getElem?_getD, List.getElem?_eq_getElem hi, List.getElem?_eq_getElem hj] at e
  exact (List.getElem_inj h).mp e
theorem getD_mem {ds : List Addr} {i : Nat} (hi : i < ds.length) : ds.getD i 0 ∈ ds := by
  rw [List.getD_eq_getElem?_getD, List.getElem?_eq_getElem hi]
  exact List.getElem_mem hi
theorem ref_at {ds : List Addr} {i : Nat} (hi : i < ds.length) : (ds.map V.ref)[i]? = some (.ref (ds.getD i 0)) := by
  rw [List.getElem?_map, List.getElem?_eq_getElem hi, List.getD_eq_getElem?_getD, List.getElem?_eq_getElem hi]
  rfl
section
variable {P : Program} {w : World} {K : PySem.W.Frag} {mg : Str → Option Value} {base : Heap}
def spLawBy : Sp := fun vs H Q _ => ∃ m C xs cs, vs = [nv m, .ref C] ∧ 1 ≤ m ∧ m ≤ 7 ∧ H C = some (.lst xs) ∧ Paired (SP H) xs cs ∧ (∀ p ∈ cs, p.1 < p.2 ∧ p.2 < m) ∧ ∀ x w H', Same H H' → WebOk w → w.length = m → WebAt H' x w → Q x H'
theorem scLawBy : FnScope ["_law_many", "_law_couples", "_law_found", "_law_one", "_law_other", "_law_person", "_law_own"] ["_law_many", "_law_couples"] (defScope sLawBy) := ⟨rfl, rfl, rfl, by decide +kernel, rfl, by decide +kernel, by decide +kernel⟩
theorem ok__law_by (F : FnD K mg "_law_by" sLawBy) (B : Bt mg) :
    Fnc P w K mg base CX0 "_law_by" 1 ["_law_many", "_law_couples"] spLawBy := by
  refine fnc0 F scLawBy (fun vs H Q E h => ?_) (fun _ _ _ _ _ _ us hl => match us, hl with | [_, _], _ => rfl) (fun f cdv A outer s H vs Q E hr h => ?_)
  · obtain ⟨m, C, xs, cs, rfl, _⟩ := h
    rfl
  · obtain ⟨m, C, xs, cs, rfl, hm1, hm2, hC, hp, hcs, k⟩ := h
    refine ⟨_, (pss_cons (ps_setLc (i := 2) (own := [("_law_person", 5)]) (g := gName 5) (tt := tYes) rfl scLawBy.nd rfl rfl (sw_true rfl rfl rfl rfl) (pi_range1 (by rfl) B.range (pa_cons (pv 0) pa_nil)) (blkOk_by (N := ["_law_many", "_law_couples", "_law_found", "_law_one", "_law_other", "_law_person", "_law_own"]) (sc := (defScope sLawBy)) (by decide +kernel)) (fun _ _ _ _ _ => (pg_name (i := 5) scLawBy.nd rfl (Or.inl rfl))) (fun _ _ _ _ _ => pts_nil) (fun _ _ _ _ _ => pe_dnewK))
      (pss_cons (ps_for PassesOwn.never rfl (pi_list (pv 1)) (pg_tup rfl (pgs_cons (pg_name (i := 3) scLawBy.nd rfl (Or.inl rfl)) (pgs_cons (pg_name (i := 4) scLawBy.nd rfl (Or.inl rfl)) pgs_nil))) (pss_cons (ps_dput (hu_of hr) (pe_ix (r := rIxL K) ix_list (pv 2) (pv 3) (fun _ _ => rfl)) (pv 4) pe_bl (by rfl))
      (pss_one (ps_dput (hu_of hr) (pe_ix (r := rIxL K) ix_list (pv 2) (pv 4) (fun _ _ => rfl)) (pv 3) pe_bl (by rfl)))))
      (pss_one (ps_ret (pe_callTy (r := rTuple K) call_tuple_of (by rfl) B.tuple boot_tuple (pa_cons (pe_lc (wi := iList K _) (own := [("_law_own", 6)]) (g := gName 6) (tt := tYes) rfl scLawBy.nd (pi_list (pv 2)) (blkOk_by (N := ["_law_many", "_law_couples", "_law_found", "_law_one", "_law_other", "_law_person", "_law_own"]) (sc := (defScope sLawBy)) (by decide +kernel)) (fun _ _ _ _ _ => (pg_name (i := 6) scLawBy.nd rfl (Or.inl rfl))) (fun _ _ _ _ _ => pts_nil) (fun _ _ _ _ _ => (pe_callTy (r := rTuple K) call_tuple_of (by rfl) B.tuple boot_tuple (pa_cons (pe_callB (r := rSorted K) cr_sorted (by rfl) B.sorted boot_sorted (pa_cons (pe_callTy (r := rListK) (call_listD rfl) (by rfl) B.list boot_list (pa_cons (pv 6) pa_nil)) pa_nil)) pa_nil)))) pa_nil)))))), ?_⟩
    refine un_seq (un_asg (rd_dicts (n := m) (fun C kc => ⟨_, rfl, kc⟩) (by omega) (fun _ => rfl) fun D ds H1 e1 hDn hdl hnd hds hD => ?_))
    have hp1 := paired_mono (R' := SP H1) (fun v b h => sp_up _ _ v b (tup_of e1) h) hp
    have hC1 := e1 _ _ hC
    have hCd : ∀ d ∈ ds, C ≠ d := fun d hd z => by
      have q := (hds d hd).1
      rw [← z, hC] at q
      cases q
    refine un_seq ⟨_, rfl, C, rfl, ⟨_, SqL.of hC1⟩, for_list (xs := xs) (fun i σ H' => ∃ u1 u2 rows, σ = [some (nv m), some (.ref C), some (.ref D), u1, u2, none, none] ∧ Same H H' ∧ H' D = some (.lst (ds.map V.ref)) ∧ Rows (cs.take i) rows ∧ ∀ j, j < m → H' (ds.getD j 0) = some (.dK (rowK (rows j))))
      ⟨none, none, fun _ => [], rfl, e1, hD, ⟨fun _ => List.nodup_nil, fun i j => by simp⟩, fun j hj => (hds _ (getD_mem (by omega))).2.2⟩ (fun i σ H' _ p => ?_) (fun i x σ H' hx p => ?_) (fun σ H' p => ?_)⟩
    · obtain ⟨_, _, _, _, e, _⟩ := p
      exact SqL.of (e _ _ hC)
    · obtain ⟨u1, u2, rows, rfl, e, hD2, hrows, hd2⟩ := p
      obtain ⟨⟨a, b⟩, hc, t, rfl, ht⟩ := paired_at hp hx
      obtain ⟨hab, hbm⟩ := hcs _ (List.mem_of_getElem? hc)
      have hab : a < b := hab
      have hbm : b < m := hbm
      have lens : ∀ j, (rows j).length ≤ 1000 := fun j => by
        have h1 := nodup_len (D := List.range m) (hrows.1 j) fun x hx => by
          rw [List.mem_range]
          rcases (hrows.2 j x).mp hx with z | z
          · exact (hcs _ (List.mem_of_mem_take z)).2
          · exact Nat.lt_trans (hcs _ (List.mem_of_mem_take z)).1 (hcs _ (List.mem_of_mem_take z)).2
        rw [List.length_range] at h1
        omega
      have hda := hd2 a (by omega)
      have hdb := hd2 b hbm
      have hne : ds.getD a 0 ≠ ds.getD b 0 := fun z => by
        have := nodup_get hnd (by omega) (by omega) z
        omega
      have hma := getD_mem (ds := ds) (i := a) (by omega)
      have hmb := getD_mem (ds := ds) (i := b) (by omega)
      refine ⟨t, _, rfl, SqT.of (e _ _ ht), rfl, _, _, rfl, _, _, rfl, rfl, ?_⟩
      refine un_seq ⟨_, rfl, _, rfl, D, _, (a : Int), _, rfl, rfl, SqL.of hD2, atI_nat (ref_at (by omega)), _, rfl, ds.getD a 0, _, rfl, DPut.k (k := Sum.inl (b : Int)) hda (by rw [List.length_map, sizeLine_eq]; have := lens a; omega), ?_⟩
      rw [rowK_put]
      have hD3 : (upd H' (ds.getD a 0) (.dK (rowK (put (rows a) b)))) D = some (.lst (ds.map V.ref)) := by
        rw [upd_ne (Ne.symm (hds _ hma).2.1)]
        exact hD2
      have hdb3 : (upd H' (ds.getD a 0) (.dK (rowK (put (rows a) b)))) (ds.getD b 0) = some (.dK (rowK (rows b))) := by
        rw [upd_ne (Ne.symm hne)]
        exact hdb
      refine ⟨_, rfl, _, rfl, D, _, (b : Int), _, rfl, rfl, SqL.of hD3, atI_nat (ref_at (by omega)), _, rfl, ds.getD b 0, _, rfl, DPut.k (k := Sum.inl (a : Int)) hdb3 (by rw [List.length_map, sizeLine_eq]; have := lens b; omega), ?_⟩
      rw [rowK_put]
      refine ⟨_, _, fun i => if i = b then put (rows b) a else if i = a then put (rows a) b else rows i, rfl, fun y o q => ?_, ?_, ?_, fun j hj => ?_⟩
      · rw [upd_ne (ne_of_none q (hds _ hmb).1), upd_ne (ne_of_none q (hds _ hma).1)]
        exact e _ _ q
      · rw [upd_ne (Ne.symm (hds _ hmb).2.1)]
        exact hD3
      · rw [take_snoc hc]
        exact rows_step hrows hab
      · dsimp only
        by_cases h1 : j = b
        · subst h1
          rw [if_pos rfl, upd_same]
        · rw [if_neg h1, upd_ne fun z => h1 (nodup_get hnd (by omega) (by omega) z)]
          by_cases h2 : j = a
          · subst h2
            rw [if_pos rfl, upd_same]
          · rw [if_neg h2, upd_ne fun z => h2 (nodup_get hnd (by omega) (by omega) z)]
            exact hd2 j hj
    · obtain ⟨u1, u2, rows, rfl, e, hD2, hrows, hd2⟩ := p
      have hlen := paired_len hp
      rw [hlen, List.take_length] at hrows
      have lens : ∀ j, (rows j).length ≤ 7 ∧ ∀ x ∈ rows j, x < m := fun j => by
        have h2 : ∀ x ∈ rows j, x < m := fun x hx => by
          rcases (hrows.2 j x).mp hx with z | z
          · exact (hcs _ z).2
          · exact Nat.lt_trans (hcs _ z).1 (hcs _ z).2
        have h1 := nodup_len (D := List.range m) (hrows.1 j) fun x hx => List.mem_range.mpr (h2 x hx)
        rw [List.length_range] at h1
        exact ⟨by omega, h2⟩
      dsimp only
      refine un_ret (un_cb (un_cons (rd_mapL (R := fun _ v c => v = V.ref (ds.getD c 0)) (S := fun H v c => ∃ s, Ppl H v s ∧ (s.Perm (rows c) ∧ s.Pairwise (· < ·))) (l := List.range m) (fun c => c) (fun C0 kq => ⟨_, rfl, kq D _ H' (Same.refl _) hD2 ?src⟩) (by rw [List.length_range]; omega) (fun _ _ _ _ _ h => h) (fun _ _ _ _ t ⟨s, h1, h2⟩ => ⟨s, h1.mono t, h2⟩) (fun x c H3 Kt hc e3 r ky => ?_) (fun D2 ys H3 e3 hD3 hys => ?_))))
      case src =>
        have h1 : ds.map V.ref = (List.range m).map fun c => V.ref (ds.getD c 0) := by
          apply List.ext_getElem?
          intro i
          by_cases hi : i < m
          · rw [ref_at (by omega), List.getElem?_map, List.getElem?_range hi]
            rfl
          · rw [List.getElem?_eq_none (by rw [List.length_map]; omega), List.getElem?_eq_none (by rw [List.length_map, List.length_range]; omega)]
        rw [h1]
        exact paired_map (R := fun v c => v = V.ref (ds.getD c 0)) (fun c => V.ref (ds.getD c 0)) (fun _ => rfl) _
      · obtain rfl : x = V.ref (ds.getD c 0) := r
        have hcm := List.mem_range.mp hc
        refine ⟨rfl, _, rfl, _, _, rfl, .inl (e3 _ _ (hd2 c hcm)), fun p hpn => ?_⟩
        have e4 := same_new (o := .lst ((rowK (rows c)).map fun kv => kV kv.1)) hpn
        have hk : ((rowK (rows c)).map fun kv => kV kv.1) = (cI (rows c)).map V.int := by
          rw [cI_tv, List.map_map]
          rfl
        refine ⟨p, cI (rows c), rfl, SqL.of (by rw [← hk]; exact upd_same), by rw [List.length_map]; have := (lens c).1; omega, fun ns' q hperm hpw hqn => ?_⟩
        have e5 := same_new (o := .lst (ns'.map V.int)) hqn
        refine ⟨q, _, rfl, .inl ⟨SqL.of upd_same, fun t htn => ky _ _ (e4.trans (e5.trans (same_new htn))) ⟨ns'.map Int.toNat, ⟨t, rfl, ?_⟩, ?_, ?_⟩⟩⟩
        · rw [upd_same]
          congr 2
          show ns'.map V.int = (ns'.map Int.toNat).map nv
          rw [List.map_map]
          refine List.map_congr_left fun z hz => ?_
          obtain ⟨n, _, rfl⟩ := List.mem_map.mp (hperm.mem_iff.mp hz)
          rfl
        · have h1 := hperm.map Int.toNat
          rw [List.map_map] at h1
          have h2 : (rows c).map (Int.toNat ∘ fun n : Nat => (n : Int)) = rows c := (List.map_congr_left fun z _ => rfl).trans (List.map_id _)
          rw [h2] at h1
          exact h1
        · have hnd2 : ns'.Nodup := hperm.nodup_iff.mpr (List.pairwise_map.mpr ((hrows.1 c).imp fun h z => h (by omega)))
          have h3 : ns'.Pairwise (· < ·) := (hpw.and hnd2).imp fun h => by omega
          refine List.pairwise_map.mpr (h3.imp_of_mem fun ha hb h => ?_)
          obtain ⟨n, _, rfl⟩ := List.mem_map.mp (hperm.mem_iff.mp ha)
          obtain ⟨n2, _, rfl⟩ := List.mem_map.mp (hperm.mem_iff.mp hb)
          show (n : Int).toNat < (n2 : Int).toNat
          omega
      · rw [List.map_id'] at hys
        obtain ⟨w, hw1, hw2, hw3⟩ := paired_choose hys
        rw [List.length_range] at hw2
        have hfr : ∀ i, i < m → (fr w i).Perm (rows i) ∧ (fr w i).Pairwise (· < ·) := fun i hi => by
          obtain ⟨s, h1, h2⟩ := hw3 i i (List.getElem?_range hi)
          rw [← fr_at h1]
          exact h2
        refine ⟨D2, _, rfl, .inl ⟨SqL.of hD3, fun t htn => k _ w _ (e.trans (e3.trans (same_new htn))) ⟨by omega, by omega, fun p hp => (hfr p (by omega)).2, fun p hp q hq => ?_, fun p hp z => ?_, fun p q hp hq => ?_⟩ hw2 ⟨t, ys, rfl, upd_same, paired_mono (fun _ _ => Ppl.mono (tup_of (same_new htn))) hw1⟩⟩⟩
        · rw [hw2]
          exact (lens p).2 q ((hfr p (by omega)).1.mem_iff.mp hq)
        · rcases (hrows.2 p p).mp ((hfr p (by omega)).1.mem_iff.mp z) with h | h
          · exact absurd (hcs _ h).1 (Nat.lt_irrefl _)
          · exact absurd (hcs _ h).1 (Nat.lt_irrefl _)
        · have h1 := (hfr p (by omega)).1.mem_iff.mp hq
          have h2 := (lens p).2 q h1
          refine (hfr q h2).1.mem_iff.mpr ((hrows.2 q p).mpr ?_)
          rcases (hrows.2 p q).mp h1 with h | h
          · exact .inr h
          · exact .inl h
end
end Ts



set_option Elab.async false
set_option linter.all false
set_option maxRecDepth 100000
set_option maxHeartbeats 4000000
namespace Ts
open PySem PySem.Spec PyProof.Rows L2 Tm
theorem un_tC {v : V} {σ : L2.St} {H : Hp} {Q : VK} (h : Q v H) : tC v σ H Q := h
section
variable {P : Program} {w : World} {K : PySem.W.Frag} {mg : Str → Option Value} {base : Heap}
def spLawWeb (K : PySem.W.Frag) : Sp := fun vs H Q _ => ∃ R S ns, vs = [.ref R, nv 6] ∧ RowAt K H R S ns ∧ ∀ x w H', ExtR R H H' → RowAt K H' R S ns → WebOk w → w.length ≤ 6 → WebAt H' x w → Q x H'
theorem scLawWeb : FnScope ["_law_row", "_law_most", "_law_many", "_law_couples", "_law_rare", "_law_one", "_law_other"] ["_law_row", "_law_most"] (defScope sLawWeb) := ⟨rfl, rfl, rfl, by decide +kernel, rfl, by decide +kernel, by decide +kernel⟩
theorem ok__law_web (F : FnD K mg "_law_web" sLawWeb) (B : Bt mg) (g_law_taken : Fnc P w K mg base CX0 "_law_taken" 1 ["_law_row", "_law_many"] (spLawTaken K)) (g_law_by : Fnc P w K mg base CX0 "_law_by" 1 ["_law_many", "_law_couples"] spLawBy) :
    Fnc P w K mg base CX0 "_law_web" 2 ["_law_row", "_law_most"] (spLawWeb K) := by
  refine fnc0 F scLawWeb (fun vs H Q E h => ?_) (fun _ _ _ _ _ _ us hl => match us, hl with | [_, _], _ => rfl) (fun f cdv A outer s H vs Q E hr h => ?_)
  · obtain ⟨R, S, ns, rfl, _⟩ := h
    rfl
  · obtain ⟨R, S, ns, rfl, hrow, k⟩ := h
    refine ⟨_, (pss_cons (ps_par (i := 2) (j := 3) rfl scLawWeb.nd rfl rfl (by decide) rfl rfl (pa_cons (pe_op op_add pe_int (pe_fn (g_law_taken.mono (by decide)) hr (pa_cons (pv 0) (pa_cons (pv 1) pa_nil)))) (pa_cons (pe_lst pa_nil) pa_nil)) (by rfl))
      (pss_cons (ps_set (i := 4) scLawWeb.nd rfl (Or.inr rfl) (pe_op op_add pe_int (pe_fn (g_law_taken.mono (by decide)) hr (pa_cons (pv 0) (pa_cons pe_int pa_nil)))))
      (pss_cons (ps_for PassesOwn.never rfl (pi_range1 (by rfl) B.range (pa_cons (pv 2) pa_nil)) (pg_name (i := 5) scLawWeb.nd rfl (Or.inr rfl)) (pss_one (ps_set (i := 3) scLawWeb.nd rfl (Or.inl rfl) (pe_op op_cat (pv 3) (pe_lc (own := [("_law_other", 6)]) (g := gName 6) (tt := _) rfl scLawWeb.nd (pi_range2 (by rfl) B.range (pa_cons (pe_op op_add (pv 5) pe_int) (pa_cons (pv 2) pa_nil))) (blkOk_by (N := ["_law_row", "_law_most", "_law_many", "_law_couples", "_law_rare", "_law_one", "_law_other"]) (sc := (defScope sLawWeb)) (by decide +kernel)) (fun _ _ _ _ _ => (pg_name (i := 6) scLawWeb.nd rfl (Or.inl rfl))) (fun _ _ _ _ _ => pts_one (pt_cmpR (r := rEqD K) (op_eqD hr.units) (pe_fn (g_law_taken.mono (by decide)) hr (pa_cons (pv 0) (pa_cons (pv 4) pa_nil))) pe_int (nomark _))) (fun _ _ _ _ _ => (pe_tup (pa_cons (pv 5) (pa_cons (pv 6) pa_nil)))))))))
      (pss_one (ps_ret (pe_fn (g_law_by.mono (by decide)) hr (pa_cons (pv 2) (pa_cons (pv 3) pa_nil)))))))), ?_⟩
    refine un_seq ⟨_, rfl, _, rfl, R, S, ns, 6, rfl, by decide, by decide, hrow, fun r H1 hr1 e1 hrow1 => ⟨_, _, rfl, rfl, Nat.zero_le _, fun C0 hC0 => ⟨_, _, rfl, ?_⟩⟩⟩
    have er : V.int (1 + (r : Int)) = nv (1 + r) := by
      show V.int _ = V.int _
      congr 1
    dsimp only
    rw [er]
    have eC := same_new (o := .lst []) hC0
    have hrow2 := hrow1.ext eC
    have e2 : ExtR R H (upd H1 C0 (.lst [])) := e1.trans (ExtR.of eC)
    have hC0R : C0 ≠ R := fun z => by
      obtain ⟨xs, h⟩ := hrow1.lst
      rw [z, h] at hC0
      cases hC0
    have hC2 : (upd H1 C0 (.lst [])) C0 = some (.lst []) := upd_same
    generalize upd H1 C0 (.lst []) = H2 at eC hrow2 e2 hC2
    refine un_seq ⟨_, rfl, R, S, ns, 3, rfl, by decide, by decide, hrow2, fun r3 H3 hr3 e3 hrow3 => ⟨_, _, rfl, rfl, ?_⟩⟩
    have er3 : V.int (2 + (r3 : Int)) = nv (2 + r3) := by
      show V.int _ = V.int _
      congr 1
    dsimp only
    rw [er3]
    refine un_seq ⟨_, rfl, ((1 + r : Nat) : Int), rfl, by omega, by omega, for_range (lo := 0) (n := 1 + r) (fun i σ H' => ∃ u C xs cs, σ = [some (.ref R), some (nv 6), some (nv (1 + r)), some (.ref C), some (nv (2 + r3)), u, none] ∧ ExtR R H H' ∧ RowAt K H' R S ns ∧ C ≠ R ∧ H' C = some (.lst xs) ∧ Paired (SP H') xs cs ∧ (∀ p ∈ cs, p.1 < p.2 ∧ p.2 < 1 + r) ∧ cs.length ≤ i * 7)
      ⟨none, C0, [], [], rfl, e2.trans e3, hrow3, hC0R, e3 _ _ hC0R hC2, .nil, fun p hp => absurd hp (by simp), Nat.zero_le _⟩ (fun i σ H' hi p => ?_) (fun σ H' p => ?_)⟩
    · obtain ⟨u, C, xs, cs, rfl, e, hrw, hCR, hC, hp, hcs, hl⟩ := p
      have ex : ((0 : Int) + (i : Nat)) = ((i : Nat) : Int) := Int.zero_add _
      rw [ex]
      refine ⟨_, rfl, rd_row2 (SB := SP) (lo := i + 1) (hi := 1 + r) (fun o => (i, o)) (fun C1 kc => ⟨_, rfl, _, _, rfl, rfl, _, rfl, kc⟩) (by omega) hrw sp_up (fun c H4 N Kt h1 h2 e4 hr4 kn ky => ?_) (fun D ys l H4 hl2 hDn e4 hr4 hD hys => ?_)⟩
      · refine ⟨rfl, _, rfl, _, rfl, R, S, ns, 2 + r3, rfl, by omega, by omega, hr4, fun q H5 hq e5 hr5 => un_tC (rEq_int (b := 0) ⟨_, rfl, br rfl (fun h => ?_) (fun h => ?_)⟩)⟩
        · exact ⟨_, rfl, _, rfl, by show 2 ≤ sizeLine; decide, fun t ht => ky _ _ (e5.trans (ExtR.of (same_new ht))) (hr5.ext (same_new ht)) ⟨t, rfl, upd_same⟩⟩
        · exact kn _ e5 hr5
      · have lx := paired_len hp
        have ly := paired_len hys
        have ll := hl2.length_le
        rw [List.length_map] at ly
        rw [List.length_range'] at ll
        refine ⟨C, D, xs, ys, rfl, rfl, e4 _ _ hCR hC, hD, by rw [sizeLine_eq]; omega, fun D3 hD3 => ?_⟩
        have e5 := same_new (o := .lst (xs ++ ys)) hD3
        have t4 : Tup H' H4 := tup_extR hrw.lst e4
        have hD3R : D3 ≠ R := fun z => by
          obtain ⟨zs, h⟩ := hr4.lst
          rw [z, h] at hD3
          cases hD3
        refine ⟨_, D3, xs ++ ys, cs ++ l.map fun o => (i, o), rfl, e.trans (e4.trans (ExtR.of e5)), hr4.ext e5, hD3R, upd_same, paired_app (paired_mono (fun v b h => sp_up _ _ v b (t4.trans (tup_of e5)) h) hp) (paired_mono (fun v b h => sp_up _ _ v b (tup_of e5) h) hys), fun p hp2 => ?_, ?_⟩
        · rcases List.mem_append.mp hp2 with z | z
          · exact hcs p z
          · obtain ⟨o, ho, rfl⟩ := List.mem_map.mp z
            have := List.mem_range'_1.mp (hl2.subset ho)
            exact ⟨by show i < o; omega, by show o < 1 + r; omega⟩
        · rw [List.length_append, List.length_map, Nat.succ_mul]
          omega
    · obtain ⟨u, C, xs, cs, rfl, e, hrw, hCR, hC, hp, hcs, hl⟩ := p
      exact ⟨_, rfl, _, rfl, 1 + r, C, xs, cs, rfl, by omega, by omega, hC, hp, hcs, fun x w H' e5 W hw hx => k x w H' (e.trans (ExtR.of e5)) (hrw.ext e5) W (by omega) hx⟩
end
end Ts



set_option Elab.async false
set_option linter.all false
set_option maxRecDepth 100000
set_option maxHeartbeats 4000000
namespace Ts
open PySem PySem.Spec PyProof.Rows L2 Tm LamX
/-- told: a NotMade is None -/
def TTold2 (C : Addr) : (XK → Hp → VK → Prop) → Hp → VK → Prop := fun tl H Q => tl (fun cls d H' => cls = .ref C ∧ d = none ∧ Q .non H') H Q
theorem scLawTold : FnScope ["_law_work", "e"] ["_law_work"] (defScope sLawTold) := ⟨rfl, rfl, rfl, by decide +kernel, rfl, by decide +kernel, by decide +kernel⟩
theorem told_gives2 {X : Cx} {q : Str} {g CS C : Addr} {cdg : Value} (hme : X.mg "SitError" = some (.ref CS)) (hmn : X.mg "NotMade" = some (.ref C)) (hmi : X.mg "isinstance" = none) (EC : ExcC X.K C) (hko : PySem.W.kitOne X.K (.ref C) (.ref C) = some true) (hex : PySem.W.exmOne X.K (.ref C) (.ref CS) = some true) :
    GivesTo X ["_law_work", "e"] "_law_told" (defScope sLawTold) g cdg (defBody sLawTold) "_law_work" q (TTold2 C) := by
  intro f c' s H Q tl act hc h
  refine ⟨_, pss_one (ps_try_as (X := (cxOf C8.CX0 X.prog X.w X.K X.mg X.base ["_law_work", "e"] "_law_told" (defScope sLawTold) g cdg X.A X.stack s H C8.E0).nox) (c := .ref CS) (i := 1) (n := "e") (Wout := fun _ _ _ _ => False)
    (tb := fun W D σ H => ∃ Ech : XK, (∀ cls d σ' H', Ech cls d H' → W cls d σ' H') ∧ σ[0]? = some (some (.ref f)) ∧ H c' = some (CodeO c' q) ∧ tl Ech H D.rt)
    (ts := fun a cls d D σ H => cls = .ref C ∧ d = none ∧ (∃ σ0 : L2.St, σ = σ0.set 1 (some (.ref a))) ∧ D.rt .non H)
    rfl rfl scLawTold.nd rfl rfl ⟨rfl, rfl, .inl hme⟩ takes0 (fun W pn xe tk _ => ?_) (fun a oe cls d pn hz hf => ?_)), ?_⟩
  · refine ⟨fun pins s' σ H' D I h' => ?_⟩
    obtain ⟨Ech, hW, h1, h2, h3⟩ := h'
    have hp := fun p1 p2 => act W pn xe Ech p1 p2 tk hW
    exact (pss_one (ps_ret (hp _ _))).run pins s' σ H' D I ⟨h1, h2, h3⟩
  · refine ⟨fun pins s' σ H' D I h' => ?_⟩
    obtain ⟨rfl, rfl, ⟨σ0, hσ⟩, h2⟩ := h'
    have hl : σ.length = 2 := I.len
    have h1 : σ[1]? = some (some (.ref a)) := by
      rw [hσ, List.length_set] at hl
      rw [hσ, List.getElem?_set_self (by omega)]
    refine (pss_one (ps_ret (pe_ifExp (pt_val (pe_callB (call_isE (X := (cxOf C8.CX0 X.prog X.w X.K X.mg X.base ["_law_work", "e"] "_law_told" (defScope sLawTold) g cdg X.A X.stack s H C8.E0).nox) EC hz hf) (by rfl) hmi boot_isinstance (pa_cons (pv 1) (pa_cons (pe_glob (v := .ref C) (by rfl) hmn rfl) pa_nil)))) pe_non pe_str))).run pins s' σ H' D I ?_
    exact ⟨_, h1, .ref C, .ref C, true, rfl, fun u hu => hu, hko, true, rfl, iteT h2⟩
  · exact ⟨fun cls d H' => cls = .ref C ∧ d = none ∧ Q .non H', fun cls d σ' H' hh => ⟨true, by rw [hh.1]; exact hex, fun _ a _ => ⟨hh.1, hh.2.1, ⟨σ', rfl⟩, hh.2.2⟩, fun z => by cases z⟩, rfl, hc, h⟩
end Ts


set_option Elab.async false
set_option linter.all false
set_option maxRecDepth 100000
set_option maxHeartbeats 4000000
namespace Ts
open PySem PySem.Spec PyProof.Rows L2 Tm LamX
/-! what the law's walk uses -/
section
variable {X : Cx} {k : Nat} {x : Str} {ps : List Str} {sp : Sp} {p pos : Pos} {e : Expr} {es : List Expr} {t : TA} {E : XK}
theorem pe_fnX (F : Fnc X.prog X.w X.K X.mg X.base (L2.CX X.prog X.w) x k ps sp) (hr : Room k X.A) (hx : Passes (L2.CX X.prog X.w) X E) (ha : PA X (e :: es) t) (hg : Gl X x := by rfl)
    (hdb : (x == ("__debug__" : Str)) = false := by decide) (he : starEach (e :: es) X.env = (false, eval e X.env) :: starEach es X.env := by rfl) (hpl : (backTo pos (starEach es X.env)).any (·.1) = false := by rfl) :
    PE X (.Call (.Name x p) (e :: es) [] pos) (tCall sp [] E t) := by
  obtain ⟨f, fd, G, hm, hk, hb⟩ := F.ex
  exact pe_call G hr hg hm hk hb .nil hx ha hdb he hpl
theorem passes_none {X : Cx} : Passes (L2.CX X.prog X.w) X (fun _ _ _ => False) := fun _ _ _ _ _ _ _ h => by
  obtain ⟨a, B, H', cls, d, _, _, _, _, _, _, _, z⟩ := h
  exact z.elim
/-- the facts of told -/
structure Told (K : PySem.W.Frag) (mg : Str → Option Value) (C CS : Addr) : Prop where
  se : mg "SitError" = some (.ref CS)
  nm : mg "NotMade" = some (.ref C)
  ii : mg "isinstance" = none
  ec : ExcC K C
  ko : PySem.W.kitOne K (.ref C) (.ref C) = some true
  ex : PySem.W.exmOne K (.ref C) (.ref CS) = some true
theorem pe_told {C CS c P : Addr} {T : List (Addr × Str)} {k : Nat} {params : Arguments} {body : Expr} {scope : Scope} {t : XK → TE} {p lpos pos : Pos} (F : FnD X.K X.mg "_law_told" sLawTold) (D : Told X.K X.mg C CS) (hg : Gl X "_law_told")
    (TB : TabB X.base X.mg c P) (hcode : X.env.code = .ref c) (hmT : (P, X.env.qual ++ "<lambda>") ∈ T) (hu : ∀ p ∈ T, p.1 = P → p.2 = X.env.qual ++ "<lambda>") (hr : Room (k + 2) X.A) (L : LamS X.env.scope scope) (hdef : defaultsOf params X.env = ([], []))
    (hbind : ∀ (q : Str) (cl : List (Str × Addr)) (pm cv ctv : Value), bindArgs (PySem.W.kla_fn "<lambda>" q params body scope cl pm cv ctv) ⟨[], []⟩ = pure [])
    (hbody : ∀ (A : Around) (outer : List Env) (s : Shared) (H : Hp) (E : XK) (f c' : Addr), Room k (A.deeper (lamEnv X scope s.heap.objs.size f c')) → PE (lamCx X A outer s H E scope f c') body (t E)) :
    PE X (.Call (.Name "_law_told" p) [.Lambda params body scope lpos] [] pos) (tLam T (TTold2 C) t) := by
  obtain ⟨f, fd, F, hm⟩ := F.ex
  have hb : L2.Binds X.K fd ["_law_work"] [] := F.bindsN (fun _ _ _ _ _ _ us hl => match us, hl with | [_], _ => rfl)
  have hk := F.kp
  obtain ⟨oc, od, dV, kV, doc, pm, an, cdv, ct, osl, rfl, lk, hcd, _, _⟩ := F.ex
  exact pe_lamcall (Ng := ["_law_work", "e"]) (a := "_law_work") hg hm hk lk hcd hb scLawTold rfl (Or.inl rfl) (told_gives2 D.se D.nm D.ii D.ec D.ko D.ex) TB hcode hmT hu hr L hdef hbind hbody
end
def vO : Option Nat → V
  | none => .non
  | some d => nv d
def encO : Option Nat → PyData
  | none => .none
  | some d => pI d
section
variable {K : PySem.W.Frag} {H : Hp} {Q : VK}
theorem dp_opt (r : Option Nat) : Dp K H (vO r) (encO r) := by
  cases r with
  | none => exact .non
  | some d => exact .int _
theorem shaped_opt (r : Option Nat) : SeqAt.shaped (encO r) = true := by
  cases r with
  | none => exact shaped_none
  | some d => exact shaped_pI d
theorem eqv_opt (a b : Option Nat) : PyData.eqv (encO a) (encO b) = decide (a = b) := by
  cases a with
  | none =>
    cases b with
    | none => simp [encO, PyData.eqv]
    | some b => simp [encO, PyData.eqv]
  | some a =>
    cases b with
    | none => simp [encO, PyData.eqv]
    | some b =>
      show PyData.eqv (pI a) (pI b) = _
      rw [eqv_pI]
      simp
theorem rNe_opt {a b : Option Nat} (q : Q (.bl (!decide (a = b))) H) : rNeD K (vO a) (vO b) H Q := ⟨_, _, dp_opt a, dp_opt b, shaped_opt a, shaped_opt b, by rw [eqv_opt]; exact q⟩
theorem shaped_bl (b : Bool) : SeqAt.shaped (.bool b) = true := by
  unfold SeqAt.shaped
  rw [PyData.canLay0, PyData.depth]
  rfl
theorem rEq_bl {a b : Bool} (q : Q (.bl (a == b)) H) : rEqD K (.bl a) (.bl b) H Q := ⟨_, _, .bl a, .bl b, shaped_bl a, shaped_bl b, by rw [PyData.eqv]; exact q⟩
theorem rNe_bl {a b : Bool} (q : Q (.bl (!(a == b))) H) : rNeD K (.bl a) (.bl b) H Q := ⟨_, _, .bl a, .bl b, shaped_bl a, shaped_bl b, by rw [PyData.eqv]; exact q⟩
theorem rNe_sp {v u : V} {a b : Nat × Nat} (h : SP H v a) (g : SP H u b) (q : Q (.bl (!decide (a = b))) H) : rNeD K v u H Q := by
  obtain ⟨t, rfl, ht⟩ := h
  obtain ⟨t2, rfl, ht2⟩ := g
  refine ⟨encT [a.1, a.2], encT [b.1, b.2], dp_tup (ns := [a.1, a.2]) ht, dp_tup (ns := [b.1, b.2]) ht2, shaped_encT _, shaped_encT _, ?_⟩
  rw [eqv_encT]
  have e : decide ([a.1, a.2] = [b.1, b.2]) = decide (a = b) := by
    rw [decide_eq_decide]
    constructor
    · intro z
      injection z with z1 z2
      injection z2 with z2 _
      exact Prod.ext z1 z2
    · intro z
      rw [z]
  rw [e]
  exact q
end
theorem tup_extN {H H' : Hp} (e : ExtN H H') : Tup H H' := fun a xs h => e a _ h fun ps z => by cases z
theorem tabs_extR {T : List (Addr × Str)} {R : Addr} {H H' : Hp} (h : Tabs T H) (hR : ∃ xs, H R = some (.lst xs)) (e : ExtR R H H') : Tabs T H' := fun p hp => by
  obtain ⟨xs, hR⟩ := hR
  obtain ⟨ps, h1, h2, h3⟩ := h p hp
  have ne : ∀ b o, H b = some o → (∀ ys, o ≠ .lst ys) → b ≠ R := fun b o q n z => by
    rw [z, hR] at q
    exact n xs (Option.some.inj q).symm
  refine ⟨ps, e _ _ (ne _ _ h1 fun _ z => by cases z) h1, h2, fun pos cv hc => ?_⟩
  obtain ⟨c, e1, e2⟩ := h3 pos cv hc
  exact ⟨c, e1, e _ _ (ne _ _ e2 fun _ z => by unfold CodeO at z; cases z) e2⟩
theorem RowAt.extN {K : PySem.W.Frag} {H H' : Hp} {R S : Addr} {ns : List Int} (h : RowAt K H R S ns) (e : ExtN H H') : RowAt K H' R S ns := by
  obtain ⟨⟨i1, i2, i3, h0, h1⟩, h2⟩ := h
  exact ⟨⟨i1, i2, i3, h0, e _ _ h1 fun ps z => by cases z⟩, fun H2 e2 => h2 H2 (ExtRN.trans (fun b o _ q n => e b o q n) e2)⟩
/-- the row made -/
theorem row_new {K : PySem.W.Frag} {H : Hp} {R S : Addr} {ns : List Int} (hR : H R = none) (hS : SqL K H S (ns.map V.int)) : RowAt K (upd H R (.lst [.ref S, .int 0, .int 9946, .int 0])) R S ns := by
  refine ⟨⟨0, 9946, 0, by decide, upd_same⟩, fun H' e => ?_⟩
  rcases hS with (h | ⟨o, h⟩) | h
  · have n := ne_of_none h hR
    exact .inl (.inl (e _ _ n (by rw [upd_ne n]; exact h) fun ps z => by cases z))
  · have n := ne_of_none h hR
    exact .inl (.inr ⟨o, e _ _ n (by rw [upd_ne n]; exact h) fun ps z => by cases z⟩)
  · exact .inr h
/-- what the law knows all along -/
structure Lf (T : List (Addr × Str)) (wa bb tb : Addr) (w : Web) (s : List Nat) (H : Hp) : Prop where
  tabs : Tabs T H
  web : WebAt H (.ref wa) w
  beg : H bb = some (.tup (tv s))
  tops : H tb = some (.tup (tv (peaksIn w s)))
section
variable {T : List (Addr × Str)} {wa bb tb : Addr} {w : Web} {s : List Nat} {H H' : Hp}
theorem Lf.same (h : Lf T wa bb tb w s H) (e : Same H H') : Lf T wa bb tb w s H' := ⟨h.tabs.ext e, h.web.mono (tup_of e), e _ _ h.beg, e _ _ h.tops⟩
theorem Lf.extN (h : Lf T wa bb tb w s H) (e : ExtN H H') (t : Tabs T H') : Lf T wa bb tb w s H' := ⟨t, h.web.mono (tup_extN e), tup_extN e _ _ h.beg, tup_extN e _ _ h.tops⟩
theorem Lf.extR {R : Addr} (h : Lf T wa bb tb w s H) (hR : ∃ xs, H R = some (.lst xs)) (e : ExtR R H H') : Lf T wa bb tb w s H' := ⟨tabs_extR h.tabs hR e, h.web.mono (tup_extR hR e), tup_extR hR e _ _ h.beg, tup_extR hR e _ _ h.tops⟩
theorem Lf.pb (h : Lf T wa bb tb w s H) : Ppl H (.ref bb) s := ⟨bb, rfl, h.beg⟩
theorem Lf.pt (h : Lf T wa bb tb w s H) : Ppl H (.ref tb) (peaksIn w s) := ⟨tb, rfl, h.tops⟩
end
section
variable {ts us : TS} {tc tu tc2 : TT} {ta tb : TE} {r : R2} {D : Ends} {σ : L2.St} {H : Hp} {Q : VK} {Qb : Bool → Hp → Prop}
theorem un_if (h : tc σ H fun b H1 => if b = true then ts D σ H1 else us D σ H1) : tIfS tc ts us D σ H := h
theorem un_and (h : tc σ H fun c H1 => if c = true then tu σ H1 Qb else Qb false H1) : tAnd tc tu σ H Qb := h
theorem un_test (h : ta σ H fun x H' => ∃ k, x = .bl k ∧ Qb k H') : tTest ta σ H Qb := h
theorem un_op (h : ta σ H fun x H1 => tb σ H1 fun y H2 => r x y H2 Q) : tOp r ta tb σ H Q := h
theorem un_isn (h : ta σ H fun x H1 => Q (.bl (decide (x = .non))) H1) : tIsN ta σ H Q := h
theorem un_tifT (h : tc σ H fun c H1 => if c = true then ta σ H1 Q else tb σ H1 Q) : tIf tc ta tb σ H Q := h
end
/-- told, read -/
theorem rd_told {C : Addr} {T : List (Addr × Str)} {t : XK → TE} {σ : L2.St} {H : Hp} {Q : VK} {w : Web} {s : List Nat} {fn : List Nat → Bool} (hT : Tabs T H) (ht : ∀ (H1 : Hp) (E : XK), ExtN H H1 → Tabs T H1 → Out T C w s fn H1 Q E → t E σ H1 Q)
    (k : ∀ r H', ExtN H H' → Tabs T H' → LeastOf w s fn r → Q (vO r) H') : tLam T (TTold2 C) t σ H Q :=
  ⟨hT, fun H1 e1 hT1 => ht H1 _ e1 hT1 ⟨fun d H' e h hL => k (some d) H' (e1.trans e) h hL, fun hL H' e h => ⟨rfl, rfl, k none H' (e1.trans e) h hL⟩⟩⟩
theorem vO_non (r : Option Nat) : decide (vO r = .non) = decide (r = none) := by
  cases r with
  | none => simp [vO]
  | some d => simp [vO]
theorem told_ne {r : Option Nat} {b : Bool} {p : Prop} (h1 : r = none ↔ ¬p) (h2 : b = true ↔ p) : (decide (vO r = .non) == b) = false := by
  rw [vO_non]
  cases b with
  | true =>
    have hp := h2.mp rfl
    have : ¬ r = none := fun z => h1.mp z hp
    simp [this]
  | false =>
    have hp : ¬p := fun z => by
      have := h2.mpr z
      cases this
    simp [h1.mpr hp]
/-- the first test of a person -/
theorem rd_need {K : PySem.W.Frag} {σ : L2.St} {H : Hp} {Qb : Bool → Hp → Prop} {r : Option Nat} {c : Nat} {s tops : List Nat} {bb tb : Addr} (h6 : σ[6]? = some (some (vO r))) (h5 : σ[5]? = some (some (nv c))) (h3 : σ[3]? = some (some (.ref bb))) (h4 : σ[4]? = some (some (.ref tb)))
    (hb : H bb = some (.tup (tv s))) (ht : H tb = some (.tup (tv tops))) (hr : r = (if c ∉ s then some 0 else if c ∈ tops then none else some 1)) (q : Qb false H) :
    tTest (tOp (rNeD K) (tVar 6) (tIf (tTest (tOp (rIn K true) (tVar 5) (tVar 3))) (tC (.int 0)) (tIf (tTest (tOp (rIn K false) (tVar 5) (tVar 4))) (tC .non) (tC (.int 1))))) σ H Qb := by
  refine ⟨_, h6, _, h5, _, h3, rNotIn_nat hb ⟨_, rfl, br rfl (fun h => ?_) (fun h => ?_)⟩⟩
  · have h2 : c ∉ s := fun z => by
      rw [has z] at h
      cases h
    rw [if_pos h2] at hr
    subst hr
    exact un_tC (rNe_opt (a := some 0) (b := some 0) ⟨false, rfl, q⟩)
  · have h2 : c ∈ s := by
      have : s.contains c = true := by simpa using h
      exact List.contains_iff_mem.mp this
    rw [if_neg (fun z => z h2)] at hr
    refine ⟨_, h5, _, h4, rIn_nat ht ⟨_, rfl, br rfl (fun g => ?_) (fun g => ?_)⟩⟩
    · rw [if_pos (List.contains_iff_mem.mp g)] at hr
      subst hr
      exact un_tC (rNe_opt (a := none) (b := none) ⟨false, rfl, q⟩)
    · have g2 : c ∉ tops := fun z => by
        rw [has z] at g
        cases g
      rw [if_neg g2] at hr
      subst hr
      exact un_tC (rNe_opt (a := some 1) (b := some 1) ⟨false, rfl, q⟩)
theorem can_sit_eq {w : Web} {s : List Nat} (W : WebOk w) (O : SetOk w.length s) {L : List (List Nat)} (hL : ∀ t, t ∈ L ↔ Rch w s t) : (s.filter fun p => L.any fun t => !t.contains p) = s.filter fun p => !(peaksIn w s).contains p :=
  List.filter_congr fun p hp => by
    by_cases h : p ∈ peaksIn w s
    · rw [has h]
      refine Bool.eq_false_iff.mpr fun z => ?_
      obtain ⟨t, h1, h2⟩ := List.any_eq_true.mp z
      have h3 := (peaks_in W O ((hL t).mp h1)).subset h
      rw [has h3] at h2
      cases h2
    · rw [not_has h]
      exact List.any_eq_true.mpr ⟨peaksIn w s, (hL _).mpr (peaks_rch W O), by rw [not_has h]; rfl⟩
theorem left_nil {w : Web} {s : List Nat} (W : WebOk w) (O : SetOk w.length s) {L : List (List Nat)} (hn : L.Nodup) (hL : ∀ t, t ∈ L ↔ (Rch w s t ∧ ∀ y ∈ ([] : List Nat), y ∈ t) ∧ ∀ u, Rch w s u → (∀ y ∈ ([] : List Nat), y ∈ u) → t.length ≤ u.length) : L = [peaksIn w s] := by
  have h1 : ∀ t, t ∈ L ↔ t = peaksIn w s := fun t => by
    rw [hL]
    constructor
    · rintro ⟨⟨h1, _⟩, h2⟩
      exact peaks_only W O h1 (h2 _ (peaks_rch W O) fun y hy => by cases hy)
    · rintro rfl
      exact ⟨⟨peaks_rch W O, fun y hy => by cases hy⟩, fun u hu _ => (peaks_in W O hu).length_le⟩
  match L, hn, h1 with
  | [], _, h1 => exact absurd ((h1 _).mpr rfl) (by simp)
  | [t], _, h1 => rw [(h1 t).mp List.mem_cons_self]
  | t :: u :: L, hn, h1 =>
    have ht := (h1 t).mp List.mem_cons_self
    have hu := (h1 u).mp (List.mem_cons_of_mem _ List.mem_cons_self)
    rw [List.nodup_cons] at hn
    exact absurd (by rw [ht, ← hu]; exact List.mem_cons_self) hn.1
end Ts


set_option Elab.async false
set_option linter.all false
set_option maxRecDepth 100000
set_option maxHeartbeats 4000000
namespace Ts
open PySem PySem.Spec PyProof.Rows L2 Tm LamX
theorem rd_good {K : PySem.W.Frag} {G : Addr} {r : Option Nat} {gl : List (List Nat)} {σ : L2.St} {H : Hp} {Q : VK} (hG : H G = some (.lst (tv (gl.map List.length)))) (h8 : σ[8]? = some (some (.ref G))) (h1 : r = none → gl = [])
    (h2 : ∀ d, r = some d → (∃ S ∈ gl, S.length = d) ∧ ∀ S ∈ gl, d ≤ S.length) (q : ∀ H', Same H H' → Q (.bl false) H') :
    tIf (tTest (tOp (rNeD K) (tVar 8) (tLst tNil))) (tCB (rMin K) (tCons (tVar 8) tNil)) (tC .non) σ H (fun y H2 => rNeD K (vO r) y H2 Q) := by
  refine un_tifT ⟨_, h8, Nat.zero_le _, fun p hp => rNe_lst (ms := []) (same_new hp _ _ hG) upd_same ⟨_, rfl, br rfl (fun h => ?_) (fun h => ?_)⟩⟩
  · have hne : gl ≠ [] := fun z => by
      rw [z] at h
      cases h
    refine ⟨_, h8, G, cI (gl.map List.length), rfl, SqL.of (by rw [cI_tv]; exact same_new hp _ _ hG), by rw [List.length_map, List.length_map]; exact List.length_pos_iff.mpr hne, fun m hm hmin => ?_⟩
    cases r with
    | none => exact absurd (h1 rfl) hne
    | some d =>
      obtain ⟨⟨S, hS, hSd⟩, hle⟩ := h2 d rfl
      obtain ⟨m0, hm0, rfl⟩ := List.mem_map.mp hm
      obtain ⟨S2, hS2, rfl⟩ := List.mem_map.mp hm0
      have h3 := hle S2 hS2
      have h4 := hmin _ (List.mem_map.mpr ⟨_, List.mem_map.mpr ⟨S, hS, rfl⟩, rfl⟩)
      have h5 : S2.length = d := by omega
      rw [h5]
      refine rNe_opt (a := some d) (b := some d) ?_
      rw [decide_eq_true rfl]
      exact q _ (same_new hp)
  · have hg : gl = [] := by
      have h3 : gl.map List.length = [] := by simpa using h
      exact List.map_eq_nil_iff.mp h3
    cases r with
    | none => exact un_tC (rNe_opt (a := none) (b := none) (q _ (same_new hp)))
    | some d =>
      obtain ⟨⟨S, hS, _⟩, _⟩ := h2 d rfl
      rw [hg] at hS
      cases hS
theorem fnOkC_of {P : Program} {w : World} {K : PySem.W.Frag} {mg : Str → Option Value} {base : Heap} {CX : CXT} {x : Str} {st : Stmt} {c f : Addr} {fd : FuncData} {N ps : List Str} {k : Nat} {sp : Sp} (F : FnP K x st f fd) (hc : fd.code = .ref c) (S : FnScope N ps (defScope st)) (len : ∀ vs H Q E, sp vs H Q E → vs.length = ps.length)
    (hbody : ∀ (A : Around) (outer : List Env) (s : Shared) (H : Hp) (vs : List V) (Q : VK) (E : XK), Room k (A.deeper (envOfC x (defScope st) s.heap.objs.size f (.ref c))) → sp vs H Q E →
      ∃ t, PSs (cxOf CX P w K mg base N x (defScope st) f (.ref c) A outer s H E) (defBody st) t ∧ t { nx := fun _ H' => Q .non H', rt := Q } (start N vs) H) : FnOk P w K mg base CX (k + 1) f fd ps sp := by
  obtain ⟨oc, od, dV, kV, doc, pm, an, cdv, ct, osl, rfl, lk, hcd, _, _⟩ := F.ex
  have e : cdv = .ref c := hc
  subst e
  exact fn_of lk hcd S len fun A outer s H vs Q E hr hsp => hbody A outer s H vs Q E hr hsp
theorem u65 {A : Around} {k : Nat} (hr : Room k A) : A.units + 65 < cLine := by
  have := hr.un
  omega
section
variable {P : Program} {w : World} {K : PySem.W.Frag} {mg : Str → Option Value} {base : Heap}
/-- all that the law calls -/
structure LawG (P : Program) (w : World) (K : PySem.W.Frag) (mg : Str → Option Value) (base : Heap) (T : List (Addr × Str)) (C CS c Pt : Addr) : Prop where
  B : Bt mg
  M : Mkr base mg T "law" c Pt
  F_told : FnD K mg "_law_told" sLawTold
  DT : Told K mg C CS
  g_law_web : Fnc P w K mg base CX0 "_law_web" 2 ["_law_row", "_law_most"] (spLawWeb K)
  g_law_up : Fnc P w K mg base CX0 "_law_up" 2 ["_law_row", "_law_web_here"] (spLawUp K)
  g_peaks : Fnc P w K mg base CX0 "peaks" 5 ["web", "standing"] spPeaks
  g_everybody : Fnc P w K mg base CX0 "everybody" 4 ["web"] spEverybody
  g_can_stand : Fnc P w K mg base CX0 "can_stand" 5 ["web", "standing", "person"] spCanStand
  g_can_sit : Fnc P w K mg base CX0 "can_sit" 5 ["web", "standing"] spCanSit
  g_least_end : Fnc P w K mg base CX0 "least_end" 5 ["web", "standing"] spLeastEnd
  g_law_pick : Fnc P w K mg base CX0 "_law_pick" 2 ["_law_row", "_law_kinds"] (spLawPick K)
  g_law_sets : Fnc P w K mg base CX0 "_law_sets" 1 ["_law_many"] spLawSets
  g_taller : Fnc P w K mg base CX0 "taller" 4 ["web", "person"] spTaller
  g_fewest_standing : Fnc P w K mg base CX0 "fewest_standing" 5 ["web", "standing"] spFewestStanding
  g_distance : Fnc P w K mg base CX0 "distance" 7 ["web", "standing", "goal"] spDistance
  g_left_with : Fnc P w K mg base CX0 "left_with" 5 ["web", "standing", "people"] spLeftWith
  g_reached : Fnc P w K mg base CX0 "reached" 5 ["web", "standing"] spReached
  g_ends : Fnc P w K mg base CX0 "ends" 5 ["web", "standing"] spEnds
  g_nearest_ends : Fnc P w K mg base CX0 "nearest_ends" 5 ["web", "standing"] spNearestEnds
  g_calls_to_end : Fnc P w K mg base (L2.CX P w) "calls_to_end" 5 ["web", "standing"] (spCallsToEnd T C)
  g_calls_to_sit : Fnc P w K mg base (L2.CX P w) "calls_to_sit" 5 ["web", "standing", "person"] (spCallsToSit T C)
  g_calls_to_sit_all : Fnc P w K mg base (L2.CX P w) "calls_to_sit_all" 5 ["web", "standing", "people"] (spCallsToSitAll T C)
  g_calls_to_alone : Fnc P w K mg base (L2.CX P w) "calls_to_alone" 5 ["web", "standing", "person"] (spCallsToAlone T C)
  g_calls_to_end_with : Fnc P w K mg base (L2.CX P w) "calls_to_end_with" 5 ["web", "standing", "person"] (spCallsToEndWith T C)
  g_calls_to_size : Fnc P w K mg base (L2.CX P w) "calls_to_size" 5 ["web", "standing", "many"] (spCallsToSize T C)
def spLaw (K : PySem.W.Frag) (T : List (Addr × Str)) : Sp := fun vs H Q _ => ∃ (a : Addr) (ns : List Int), vs = [.ref a] ∧ SqL K H a (ns.map V.int) ∧ Tabs T H ∧ ∀ H', Q (.bl true) H'
theorem scLaw : FnScope ["_law_script", "_law_row", "_law_web_here", "_law_begin", "_law_tops", "_law_person", "_law_need", "_law_people", "_law_good", "_law_some", "_law_few", "_law_here", "_law_end", "_law_one", "_law_other"] ["_law_script"] (defScope sLaw) := ⟨rfl, rfl, rfl, by decide +kernel, rfl, by decide +kernel, by decide +kernel⟩
section
variable {w0 : World} {c Pt C CS f : Addr} {T : List (Addr × Str)} {A : Around} {outer : List Env} {s0 : Shared} {H0 : Hp} {E : XK} {Q : VK}
theorem law_e (L : LawG P w0 K mg base T C CS c Pt) (hr : Room 19 (A.deeper (envOfC "law" (defScope sLaw) s0.heap.objs.size f (.ref c)))) (k : ∀ H', Q (.bl true) H') :
    ∃ u : TS, PSs ((cxOf CX0 P w0 K mg base ["_law_script", "_law_row", "_law_web_here", "_law_begin", "_law_tops", "_law_person", "_law_need", "_law_people", "_law_good", "_law_some", "_law_few", "_law_here", "_law_end", "_law_one", "_law_other"] "law" (defScope sLaw) f (.ref c) A outer s0 H0 E).nox) ((defBody sLaw).drop 9) u ∧ ∀ (w : Web) (s people : List Nat) (a R wa bb tb pb G : Addr) (u5 u6 u9 : Option V) (H' : Hp) (W : WebOk w) (hw6 : w.length ≤ 6) (O : SetOk w.length s) (OP : SetOk w.length people) (F14 : Lf T wa bb tb w s H') (hpb14 : H' pb = some (.tup (tv people))) (hG14 : H' G = some (.lst (tv ((goodL w s people).map List.length)))),
      u { nx := fun _ H' => Q .non H', rt := Q } [some (.ref a), some (.ref R), some (.ref wa), some (.ref bb), some (.ref tb), u5, u6, some (.ref pb), some (.ref G), u9, none, none, none, none, none] H' := by
    obtain ⟨B, M, F_told, DT, g_law_web, g_law_up, g_peaks, g_everybody, g_can_stand, g_can_sit, g_least_end, g_law_pick, g_law_sets, g_taller, g_fewest_standing, g_distance, g_left_with, g_reached, g_ends, g_nearest_ends, g_calls_to_end, g_calls_to_sit, g_calls_to_sit_all, g_calls_to_alone, g_calls_to_end_with, g_calls_to_size⟩ := L
    refine ⟨_, (pss_cons (ps_if (pt_cmpR (r := rNeD K) (op_neD hr.units) (pe_told (k := 5) F_told DT (by rfl) M.tb rfl M.mem M.uniq (hr.mono (by decide)) (lamS_by (sc := defScope sLaw) (by decide +kernel)) rfl (fun _ _ _ _ _ => rfl) (fun A outer s H E f c' hr' => pe_fnX g_calls_to_sit_all hr' (passes_call (takes_of rfl rfl rfl rfl) (fun _ _ _ _ h => h)) (pa_cons (pv 2) (pa_cons (pv 3) (pa_cons (pv 7) pa_nil))))) (pe_ifExp (pt_cmpR (r := rNeD K) (op_neD hr.units) (pv 8) (pe_lst pa_nil) (nomark _)) (pe_callB (r := rMin K) (cr_min rfl) (by rfl) B.min boot_min (pa_cons (pv 8) pa_nil)) pe_non) (nomark _)) (pss_one (ps_ret pe_bl)) pss_nil)
      (pss_cons (ps_if (pt_cmpR (r := rNeD K) (op_neD hr.units) (pe_fn (g_fewest_standing.mono (by decide)) hr (pa_cons (pv 2) (pa_cons (pv 3) pa_nil))) (pe_tup (pa_cons (pe_callB (r := rLen K) call_len_seq (by rfl) B.len boot_len (pa_cons (pv 4) pa_nil)) (pa_cons (pe_fn (g_distance.mono (by decide)) hr (pa_cons (pv 2) (pa_cons (pv 3) (pa_cons (pv 4) pa_nil)))) pa_nil))) (nomark _)) (pss_one (ps_ret pe_bl)) pss_nil)
      (pss_cons (ps_if (pt_cmpR (r := rNeD K) (op_neD hr.units) (pe_fnX (E := fun _ _ _ => False) (g_calls_to_size.mono (by decide)) hr passes_none (pa_cons (pv 2) (pa_cons (pv 3) (pa_cons (pe_callB (r := rLen K) call_len_seq (by rfl) B.len boot_len (pa_cons (pv 4) pa_nil)) pa_nil)))) (pe_fn (g_distance.mono (by decide)) hr (pa_cons (pv 2) (pa_cons (pv 3) (pa_cons (pv 4) pa_nil)))) (nomark _)) (pss_one (ps_ret pe_bl)) pss_nil)
      (pss_cons (ps_if (pt_cmpR (r := rNeD K) (op_neD hr.units) (pe_fnX (E := fun _ _ _ => False) (g_calls_to_size.mono (by decide)) hr passes_none (pa_cons (pv 2) (pa_cons (pv 3) (pa_cons (pe_callB (r := rLen K) call_len_seq (by rfl) B.len boot_len (pa_cons (pv 3) pa_nil)) pa_nil)))) pe_int (nomark _)) (pss_one (ps_ret pe_bl)) pss_nil)
      (pss_cons (ps_if (pt_cmpR (r := rNeD K) (op_neD hr.units) (pe_fn (g_left_with.mono (by decide)) hr (pa_cons (pv 2) (pa_cons (pv 3) (pa_cons (pe_tup pa_nil) pa_nil)))) (pe_lst (pa_cons (pv 4) pa_nil)) (nomark _)) (pss_one (ps_ret pe_bl)) pss_nil)
      (pss_cons (ps_if (pt_cmpR (r := rNeD K) (op_neD hr.units) (pe_lc (wi := iList K _) (own := [("_law_here", 11)]) (g := gName 11) (tt := _) rfl scLaw.nd (pi_list (pe_fn (g_left_with.mono (by decide)) hr (pa_cons (pv 2) (pa_cons (pv 3) (pa_cons (pv 7) pa_nil))))) (blkOk_by (N := ["_law_script", "_law_row", "_law_web_here", "_law_begin", "_law_tops", "_law_person", "_law_need", "_law_people", "_law_good", "_law_some", "_law_few", "_law_here", "_law_end", "_law_one", "_law_other"]) (sc := (defScope sLaw)) (by decide +kernel)) (fun _ _ _ _ _ => (pg_name (i := 11) scLaw.nd rfl (Or.inl rfl))) (fun _ _ _ _ _ => pts_one (pt_cmpR (r := rNotInD K) (op_notInD (u65 hr)) (pv 11) (pe_fn (g_reached.mono (by decide)) hr (pa_cons (pv 2) (pa_cons (pv 3) pa_nil))) rfl)) (fun _ _ _ _ _ => (pv 11))) (pe_lst pa_nil) (nomark _)) (pss_one (ps_ret pe_bl)) pss_nil)
      (pss_cons (ps_set (i := 10) scLaw.nd rfl (Or.inr rfl) (pe_fnX (E := fun _ _ _ => False) (g_calls_to_end.mono (by decide)) hr passes_none (pa_cons (pv 2) (pa_cons (pv 3) pa_nil))))
      (pss_one (ps_ret (pe_cmpR (r := rEqD K) (op_eqD hr.units) (pe_lc (wi := iList K _) (own := [("_law_end", 12)]) (g := gName 12) (tt := _) rfl scLaw.nd (pi_list (pe_fn (g_ends.mono (by decide)) hr (pa_cons (pv 2) (pa_cons (pv 3) pa_nil)))) (blkOk_by (N := ["_law_script", "_law_row", "_law_web_here", "_law_begin", "_law_tops", "_law_person", "_law_need", "_law_people", "_law_good", "_law_some", "_law_few", "_law_here", "_law_end", "_law_one", "_law_other"]) (sc := (defScope sLaw)) (by decide +kernel)) (fun _ _ _ _ _ => (pg_name (i := 12) scLaw.nd rfl (Or.inl rfl))) (fun _ _ _ _ _ => pts_one (pt_cmpR (r := rNeD K) (op_neD hr.units) (pe_cmpR (r := rEqD K) (op_eqD hr.units) (pe_fn (g_distance.mono (by decide)) hr (pa_cons (pv 2) (pa_cons (pv 3) (pa_cons (pv 12) pa_nil)))) (pv 10) (nomark _)) (pe_cmpR (r := rInD K) (op_inD (u65 hr)) (pv 12) (pe_fn (g_nearest_ends.mono (by decide)) hr (pa_cons (pv 2) (pa_cons (pv 3) pa_nil))) rfl) (nomark _))) (fun _ _ _ _ _ => (pv 12))) (pe_lst pa_nil) (nomark _))))))))))), ?_⟩
    intro w s people a R wa bb tb pb G u5 u6 u9 H' W hw6 O OP F14 hpb14 hG14
    have hsl := SetOk.len O
    have hpk : SetOk w.length (peaksIn w s) := O.filter _
    have hpl := SetOk.len hpk
    have hppl := SetOk.len OP
    -- all of them sit
    obtain ⟨dp, hdp⟩ := (peaks_rch W O).dist O.asc
    have hlt : (tv (peaksIn w s)).length = (peaksIn w s).length := List.length_map ..
    refine un_seq (un_if (un_test (un_op (rd_told (w := w) (s := s) (fn := fun t => !(people.any fun q => t.contains q)) F14.tabs (fun H1 E e1 hT1 ho => ⟨_, rfl, _, rfl, _, rfl, .ref wa, .ref bb, w, s, .ref pb, people, rfl, F14.web.mono (tup_extN e1), W, ⟨bb, rfl, tup_extN e1 _ _ F14.beg⟩, O, ⟨pb, rfl, tup_extN e1 _ _ hpb14⟩, OP, hT1, ho⟩) (fun r H15 e15 hT15 hL => ?_)))))
    have F15 := F14.extN e15 hT15
    have hpb15 := tup_extN e15 _ _ hpb14
    have hG15 := e15 _ _ hG14 (fun ps z => by cases z)
    obtain ⟨hn, hd⟩ := sit_all_least W O OP hL
    refine rd_good hG15 rfl hn hd fun H16 e16 => ⟨_, rfl, iteF ?_⟩
    have F16 := F15.same e16
    have hpb16 := e16 _ _ hpb15
    -- the fewest standing
    try dsimp only [tNext]
    refine un_seq (un_if (un_test (un_op ⟨_, rfl, _, rfl, .ref wa, .ref bb, w, s, rfl, F16.web, W, F16.pb, O, fun d x H17 e17 hd17 hx => ?_⟩)))
    have F17 := F16.same e17
    refine ⟨_, rfl, tb, _, rfl, .inr (SqT.of F17.tops), _, rfl, _, rfl, _, rfl, .ref wa, .ref bb, .ref tb, w, s, peaksIn w s, rfl, F17.web, W, F17.pb, O, F17.pt, hpk, peaks_rch W O, fun d2 H18 e18 hd18 => ⟨by show 2 ≤ sizeLine; decide, fun t ht => rNe_sp (a := ((peaksIn w s).length, d)) (b := ((peaksIn w s).length, d2)) (sp_up _ _ _ _ (tup_of (e18.trans (same_new ht))) hx) ⟨t, rfl, by rw [upd_same, hlt]⟩ ⟨_, rfl, ?_⟩⟩⟩
    obtain rfl := hd17.inj hd18
    rw [decide_eq_true rfl]
    refine iteF ?_
    have e19 := e18.trans (same_new (o := .tup [.int ((tv (peaksIn w s)).length : Nat), nv d]) ht)
    have F19 := F17.same e19
    have hpb19 := e19 _ _ (e17 _ _ hpb16)
    -- sizes
    try dsimp only [tNext]
    refine un_seq (un_if (un_test (un_op ⟨_, rfl, _, rfl, _, rfl, tb, _, rfl, .inr (SqT.of F19.tops), .ref wa, .ref bb, w, s, (tv (peaksIn w s)).length, rfl, F19.web, W, F19.pb, O, by omega, F19.tabs, ⟨fun d3 H20 e20 hT20 hL20 => ?_, fun hL _ _ _ => by
      rw [hlt] at hL
      exact (nomatch (hL.inj (size_least W O hdp)))⟩⟩)))
    rw [hlt] at hL20
    cases hL20.inj (size_least W O hdp)
    have F20 := F19.extN e20 hT20
    have hpb20 := tup_extN e20 _ _ hpb19
    refine ⟨_, rfl, _, rfl, _, rfl, .ref wa, .ref bb, .ref tb, w, s, peaksIn w s, rfl, F20.web, W, F20.pb, O, F20.pt, hpk, peaks_rch W O, fun d4 H21 e21 hd4 => rNe_int ⟨_, rfl, ?_⟩⟩
    obtain rfl := hdp.inj hd4
    rw [decide_eq_true rfl]
    refine iteF ?_
    have F21 := F20.same e21
    have hpb21 := e21 _ _ hpb20
    try dsimp only [tNext]
    refine un_seq (un_if (un_test (un_op ⟨_, rfl, _, rfl, _, rfl, bb, _, rfl, .inr (SqT.of F21.beg), .ref wa, .ref bb, w, s, (tv s).length, rfl, F21.web, W, F21.pb, O, by rw [List.length_map]; omega, F21.tabs, ⟨fun d5 H22 e22 hT22 hL22 => ?_, fun hL _ _ _ => by
      rw [List.length_map] at hL
      exact (nomatch (hL.inj size_self))⟩⟩)))
    rw [List.length_map] at hL22
    cases hL22.inj size_self
    refine un_tC (rNe_int (a := 0) (b := 0) ⟨_, rfl, ?_⟩)
    rw [decide_eq_true rfl]
    refine iteF ?_
    have F22 := F21.extN e22 hT22
    have hpb22 := tup_extN e22 _ _ hpb21
    -- left with nobody asked
    try dsimp only [tNext]
    refine un_seq (un_if (un_test (un_op ⟨_, rfl, _, rfl, Nat.zero_le _, fun q hq => ⟨.ref wa, .ref bb, .ref q, w, s, [], rfl, (F22.same (same_new hq)).web, W, (F22.same (same_new hq)).pb, O, ⟨q, rfl, upd_same⟩, ⟨List.Pairwise.nil, fun p hp => by cases hp⟩, fun x Lw H23 e23 hnd hmem hx => ?_⟩⟩)))
    have e23' := (same_new (o := .tup []) hq).trans e23
    have F23 := F22.same e23'
    have hpb23 := e23' _ _ hpb22
    refine ⟨_, rfl, by show 1 ≤ sizeLine; decide, fun p hp => rNe_lstT (l := Lw) (m := [peaksIn w s]) (hx.mono (same_new hp)) ⟨p, [.ref tb], rfl, upd_same, .cons ⟨tb, rfl, same_new hp _ _ F23.tops⟩ .nil⟩ ⟨_, rfl, ?_⟩⟩
    rw [decide_eq_true (left_nil W O hnd hmem)]
    refine iteF ?_
    have F24 := F23.same (same_new (o := .lst [.ref tb]) hp)
    have hpb24 := same_new (o := .lst [.ref tb]) hp _ _ hpb23
    -- left with some
    try dsimp only [tNext]
    have hcs : (choices s).length ≤ 128 := by
      rw [choices_len _ _ rfl]
      exact Nat.pow_le_pow_right (by decide) (by omega : s.length ≤ 7)
    refine un_seq (un_if (un_test (un_op (rd_lcLE (R := Ppl) (S := Ppl) (PL := fun Lw => Lw.length ≤ 128 ∧ ∀ t ∈ Lw, Rch w s t) (fun _ => false) (fun t => t) (fun C0 kq => ⟨_, rfl, _, rfl, _, rfl, .ref wa, .ref bb, .ref pb, w, s, people, rfl, F24.web, W, F24.pb, O, ⟨pb, rfl, hpb24⟩, OP, fun x Lw H25 e25 hnd hmem hx => ?_⟩) (fun Lw hLw => by have := hLw.1; omega) ppl_up ppl_up (fun Lw hLw x t H26 N Kt ht e26 r kn ky => ?_) (fun Lw hLw D ys H26 e26 hD hys => ?_)))))
    · obtain ⟨la, xs, rfl, hla, hxs⟩ := hx
      refine kq Lw la xs H25 ⟨?_, fun t ht => ((hmem t).mp ht).1.1⟩ e25 hla hxs
      exact Nat.le_trans (nodup_len hnd fun t ht => choices_mem.mpr ((hmem t).mp ht).1.1.sub) hcs
    · refine ⟨rfl, _, rfl, _, rfl, _, rfl, .ref wa, .ref bb, w, s, rfl, F24.web.mono (tup_of e26), W, F24.pb.mono (tup_of e26), O, fun x2 L2 H27 e27 hL2 hx2 => rNotIn_lstT (r.mono (tup_of e27)) hx2 ⟨_, rfl, ?_⟩⟩
      rw [List.contains_iff_mem.mpr ((hL2 t).mpr (hLw.2 t ht))]
      exact iteF (kn rfl _ e27)
    have hfil : ∀ Lw : List (List Nat), Lw.filter (fun _ => false) = [] := fun Lw => by simp
    rw [hfil] at hys
    refine ⟨Nat.zero_le _, fun p2 hp2 => rNe_lstT (l := []) (m := []) ⟨D, ys, rfl, same_new hp2 _ _ hD, paired_mono (fun _ _ => Ppl.mono (tup_of (same_new hp2))) hys⟩ ⟨p2, [], rfl, upd_same, .nil⟩ ⟨false, rfl, iteF ?_⟩⟩
    have F26 := F24.same (e26.trans (same_new (o := .lst []) hp2))
    -- the ends
    try dsimp only [tNext]
    refine un_seq (un_asg ⟨_, rfl, _, rfl, .ref wa, .ref bb, w, s, rfl, F26.web, W, F26.pb, O, F26.tabs, ⟨fun few H27 e27 hT27 hL27 => ?_, fun hL _ _ _ => by
      have h1 : apart w (peaksIn w s) = false := hL _ (peaks_rch W O)
      rw [peaks_apart W O] at h1
      cases h1⟩⟩)
    have F27 := F26.extN e27 hT27
    try dsimp only [tNext]
    refine un_ret (un_op (rd_lcLE (R := Ppl) (S := Ppl) (PL := fun Lw => Lw.length ≤ 128 ∧ ∀ t, t ∈ Lw ↔ IsEnd w s t) (fun _ => false) (fun t => t) (fun C0 kq => ⟨_, rfl, _, rfl, .ref wa, .ref bb, w, s, rfl, F27.web, W, F27.pb, O, fun x Lw H28 e28 h1 h2 hx => ?_⟩) (fun Lw hLw => by have := hLw.1; omega) ppl_up ppl_up (fun Lw hLw x t H28 N Kt ht e28 r kn ky => ?_) (fun Lw hLw D ys H28 e28 hD hys => ?_)))
    · obtain ⟨la, xs, rfl, hla, hxs⟩ := hx
      exact kq Lw la xs H28 ⟨h1, h2⟩ e28 hla hxs
    · obtain ⟨hRt, hAt⟩ := (hLw.2 t).mp ht
      refine ⟨rfl, _, rfl, _, rfl, _, rfl, .ref wa, .ref bb, x, w, s, t, rfl, F27.web.mono (tup_of e28), W, F27.pb.mono (tup_of e28), O, r, O.sub hRt.sub, hRt, fun dt H29 e29 hdt => ⟨_, rfl, rEq_int ⟨_, rfl, _, rfl, _, rfl, .ref wa, .ref bb, w, s, rfl, F27.web.mono (tup_of (e28.trans e29)), W, F27.pb.mono (tup_of (e28.trans e29)), O, fun x2 L2 H30 e30 hm hx2 => rIn_lstT (r.mono (tup_of (e29.trans e30))) hx2 (rNe_bl ⟨_, rfl, ?_⟩)⟩⟩⟩
      have hv : (decide (dt = few) == L2.contains t) = true := by
        obtain ⟨⟨t0, h1, h2⟩, h3⟩ := hL27
        by_cases hdf : dt = few
        · have hin : t ∈ L2 := (hm t).mpr ⟨dt, hdt, hAt, fun u e hu ha => by rw [hdf]; exact h3 u e hu ha⟩
          rw [List.contains_iff_mem.mpr hin, decide_eq_true hdf]
          rfl
        · have hout : L2.contains t = false := Bool.eq_false_iff.mpr fun z => by
            obtain ⟨d, g1, g2, g3⟩ := (hm t).mp (List.contains_iff_mem.mp z)
            have g4 := g1.inj hdt
            have g5 := g3 t0 few h1 h2
            have g6 := h3 t dt hdt hAt
            omega
          rw [hout, decide_eq_false hdf]
          rfl
      rw [hv]
      exact iteF (kn rfl _ (e29.trans e30))
    rw [hfil] at hys
    exact ⟨Nat.zero_le _, fun p3 hp3 => rEq_lstT (l := []) (m := []) ⟨D, ys, rfl, same_new hp3 _ _ hD, paired_mono (fun _ _ => Ppl.mono (tup_of (same_new hp3))) hys⟩ ⟨p3, [], rfl, upd_same, .nil⟩ (k _)⟩
theorem law_d (L : LawG P w0 K mg base T C CS c Pt) (hr : Room 19 (A.deeper (envOfC "law" (defScope sLaw) s0.heap.objs.size f (.ref c)))) (k : ∀ H', Q (.bl true) H') :
    ∃ u : TS, PSs ((cxOf CX0 P w0 K mg base ["_law_script", "_law_row", "_law_web_here", "_law_begin", "_law_tops", "_law_person", "_law_need", "_law_people", "_law_good", "_law_some", "_law_few", "_law_here", "_law_end", "_law_one", "_law_other"] "law" (defScope sLaw) f (.ref c) A outer s0 H0 E).nox) ((defBody sLaw).drop 8) u ∧ ∀ (w : Web) (s people : List Nat) (a R wa bb tb pb G : Addr) (u5 u6 : Option V) (H12 : Hp) (W : WebOk w) (hw6 : w.length ≤ 6) (O : SetOk w.length s) (OP : SetOk w.length people) (F12 : Lf T wa bb tb w s H12) (hpb12 : H12 pb = some (.tup (tv people))) (hG12 : H12 G = some (.lst [])),
      u { nx := fun _ H' => Q .non H', rt := Q } [some (.ref a), some (.ref R), some (.ref wa), some (.ref bb), some (.ref tb), u5, u6, some (.ref pb), some (.ref G), none, none, none, none, none, none] H12 := by
    obtain ⟨uE, hE, rE⟩ := law_e (Q := Q) (f := f) (A := A) (outer := outer) (s0 := s0) (H0 := H0) (E := E) L hr k
    obtain ⟨B, M, F_told, DT, g_law_web, g_law_up, g_peaks, g_everybody, g_can_stand, g_can_sit, g_least_end, g_law_pick, g_law_sets, g_taller, g_fewest_standing, g_distance, g_left_with, g_reached, g_ends, g_nearest_ends, g_calls_to_end, g_calls_to_sit, g_calls_to_sit_all, g_calls_to_alone, g_calls_to_end_with, g_calls_to_size⟩ := L
    refine ⟨_, (pss_cons (ps_for PassesOwn.never rfl (pi_list (pe_fn (g_law_sets.mono (by decide)) hr (pa_cons (pe_callB (r := rLen K) call_len_seq (by rfl) B.len boot_len (pa_cons (pv 2) pa_nil)) pa_nil))) (pg_name (i := 9) scLaw.nd rfl (Or.inr rfl)) (pss_one (ps_if (pw_and (pt_cmpR (r := rEqD K) (op_eqD hr.units) (pe_lc (wi := iTup K _) (own := [("_law_one", 13)]) (g := gName 13) (tt := _) rfl scLaw.nd (pi_tup (pv 9)) (blkOk_by (N := ["_law_script", "_law_row", "_law_web_here", "_law_begin", "_law_tops", "_law_person", "_law_need", "_law_people", "_law_good", "_law_some", "_law_few", "_law_here", "_law_end", "_law_one", "_law_other"]) (sc := (defScope sLaw)) (by decide +kernel)) (fun _ _ _ _ _ => (pg_name (i := 13) scLaw.nd rfl (Or.inl rfl))) (fun _ _ _ _ _ => pts_one (pt_cmpR (r := rIn K true) op_notIn_seq (pv 13) (pv 3) rfl)) (fun _ _ _ _ _ => (pv 13))) (pe_lst pa_nil) (nomark _)) (pw_and1 (pt_cmpR (r := rEqD K) (op_eqD hr.units) (pe_lc (wi := iTup K _) (own := [("_law_one", 13)]) (g := gName 13) (tt := _) rfl scLaw.nd (pi_tup (pv 7)) (blkOk_by (N := ["_law_script", "_law_row", "_law_web_here", "_law_begin", "_law_tops", "_law_person", "_law_need", "_law_people", "_law_good", "_law_some", "_law_few", "_law_here", "_law_end", "_law_one", "_law_other"]) (sc := (defScope sLaw)) (by decide +kernel)) (fun _ _ _ _ _ => (pg_name (i := 13) scLaw.nd rfl (Or.inl rfl))) (fun _ _ _ _ _ => pts_one (pw_and (pt_cmpR (r := rIn K false) op_in_seq (pv 13) (pv 3) rfl) (pw_and1 (pt_cmpR (r := rEqD K) (op_eqD hr.units) (pe_lc (wi := iTup K _) (own := [("_law_other", 14)]) (g := gName 14) (tt := _) rfl scLaw.nd (pi_tup (pe_fn (g_taller.mono (by decide)) hr (pa_cons (pv 2) (pa_cons (pv 13) pa_nil)))) (blkOk_by (N := ["_law_script", "_law_row", "_law_web_here", "_law_begin", "_law_tops", "_law_person", "_law_need", "_law_people", "_law_good", "_law_some", "_law_few", "_law_here", "_law_end", "_law_one", "_law_other"]) (sc := relabel _ (dEnv (defScope sLaw))) (by decide +kernel)) (fun _ _ _ _ _ => (pg_name (i := 14) scLaw.nd rfl (Or.inl rfl))) (fun _ _ _ _ _ => pts_one (pt_cmpR (r := rIn K false) op_in_seq (pv 14) (pv 9) rfl)) (fun _ _ _ _ _ => (pv 14))) (pe_lst pa_nil) (nomark _)))).pt) (fun _ _ _ _ _ => (pv 13))) (pe_lst pa_nil) (nomark _)))).pt (pss_one (ps_expr (pe_bm PySem.F.plainAttrs_list PySem.F.slot_list_append PySem.F.type_list_append mt_append (pv 8) (pa_cons (pe_callB (r := rLen K) call_len_seq (by rfl) B.len boot_len (pa_cons (pv 9) pa_nil)) pa_nil)))) pss_nil)))
      hE), ?_⟩
    intro w s people a R wa bb tb pb G u5 u6 H12 W hw6 O OP F12 hpb12 hG12
    have hsl := SetOk.len O
    have hppl := SetOk.len OP
    have hch : ∀ n, n ≤ 7 → 1 ≤ (choices (List.range n)).length ∧ (choices (List.range n)).length ≤ 128 := fun n hn => by
      rw [choices_len _ _ rfl, List.length_range]
      exact ⟨Nat.one_le_two_pow, Nat.pow_le_pow_right (by decide) hn⟩
    -- the covers
    obtain ⟨wa', wzs, ew, hwz, hwr⟩ := id F12.web
    cases ew
    have hwzl : wzs.length = w.length := paired_len hwr
    try dsimp only [tNext]
    refine un_seq ⟨_, rfl, wa, wzs, rfl, .inr (SqT.of hwz), wzs.length, rfl, by omega, fun D xs H13 hDn e13 hD hp => ?_⟩
    rw [hwzl] at hp
    have hGD : D ≠ G := fun z => by
      rw [z, hG12] at hDn
      cases hDn
    have hLL := (hch w.length (by omega)).2
    refine ⟨D, rfl, ⟨_, SqL.of hD⟩, for_list (xs := xs) (fun i σ H' => Lf T wa bb tb w s H' ∧ H' pb = some (.tup (tv people)) ∧ H' D = some (.lst xs) ∧ Paired (Ppl H') xs (choices (List.range w.length)) ∧ H' G = some (.lst (tv ((((choices (List.range w.length)).take i).filter (fun S => (S.filter fun one => !s.contains one).isEmpty && (people.filter fun one => s.contains one && ((tallerIn w one).filter fun other => S.contains other).isEmpty).isEmpty)).map List.length))) ∧ ∃ u9, σ = [some (.ref a), some (.ref R), some (.ref wa), some (.ref bb), some (.ref tb), u5, u6, some (.ref pb), some (.ref G), u9, none, none, none, none, none])
      ⟨F12.same e13, e13 _ _ hpb12, hD, hp, e13 _ _ hG12, none, rfl⟩ (fun i σ H' _ p => SqL.of p.2.2.1) (fun i x σ H' hx p => ?_) (fun σ H' p => ?_)⟩
    · obtain ⟨F, hpb1, hD1, hp1, hG1, u9, rfl⟩ := p
      obtain ⟨S, hSi, sb, rfl, hsb⟩ := paired_at hp1 hx
      have hSm : S ∈ choices (List.range w.length) := List.mem_of_getElem? hSi
      have hSs := choices_mem.mp hSm
      have hSl := hSs.length_le
      rw [List.length_range] at hSl
      have skip : ∀ H2, Same H' H2 → (fun S => (S.filter fun one => !s.contains one).isEmpty && (people.filter fun one => s.contains one && ((tallerIn w one).filter fun other => S.contains other).isEmpty).isEmpty) S = false → Lf T wa bb tb w s H2 ∧ H2 pb = some (.tup (tv people)) ∧ H2 D = some (.lst xs) ∧ Paired (Ppl H2) xs (choices (List.range w.length)) ∧ H2 G = some (.lst (tv ((((choices (List.range w.length)).take (i + 1)).filter (fun S => (S.filter fun one => !s.contains one).isEmpty && (people.filter fun one => s.contains one && ((tallerIn w one).filter fun other => S.contains other).isEmpty).isEmpty)).map List.length))) ∧ ∃ u9, [some (.ref a), some (.ref R), some (.ref wa), some (.ref bb), some (.ref tb), u5, u6, some (.ref pb), some (.ref G), some (.ref sb), none, none, none, none, none] = [some (.ref a), some (.ref R), some (.ref wa), some (.ref bb), some (.ref tb), u5, u6, some (.ref pb), some (.ref G), u9, none, none, none, none, none] := fun H2 e2 hg => by
        refine ⟨F.same e2, e2 _ _ hpb1, e2 _ _ hD1, paired_mono (fun _ _ => Ppl.mono (tup_of e2)) hp1, ?_, _, rfl⟩
        rw [flt_neg hSi hg]
        exact e2 _ _ hG1
      refine un_if (un_and (un_test (un_op (rd_lcT (R := NI) (S := NI) (l := S) (fun o => !s.contains o) (fun o => o) (src_ppl (by rfl) hsb) (by omega) ni_up ni_up (fun x o H2 N Kt ho e2 r kn ky => ?_) (fun D1 ys H2 e2 hDD hys => ?_)))))
      · obtain rfl : x = nv o := r
        refine ⟨rfl, _, rfl, _, rfl, rNotIn_nat (e2 _ _ F.beg) ⟨_, rfl, br rfl (fun h => ?_) (fun h => ?_)⟩⟩
        · exact ⟨_, rfl, ky h _ _ (Same.refl _) rfl⟩
        · exact kn h _ (Same.refl _)
      have e : ys = tv (S.filter fun o => !s.contains o) := by
        have q := paired_eq nv hys
        rw [q, List.map_map]
        rfl
      subst e
      refine ⟨Nat.zero_le _, fun p3 hp3 => rEq_lst (ms := []) (same_new hp3 _ _ hDD) upd_same ⟨_, rfl, ?_⟩⟩
      have e3 := e2.trans (same_new (o := .lst []) hp3)
      generalize upd H2 p3 (.lst []) = H3' at e3
      refine br rfl (fun h => ?_) (fun h => ?_)
      · have hA : (S.filter fun o => !s.contains o).isEmpty = true := by
          rw [of_decide_eq_true h]
          rfl
        refine un_test (un_op (rd_lcT (R := NI) (S := NI) (l := people) (fun one => s.contains one && ((tallerIn w one).filter fun other => S.contains other).isEmpty) (fun o => o) (src_ppl (by rfl) (e3 _ _ hpb1)) (by omega) ni_up ni_up (fun x o H4 N Kt ho e4 r kn ky => ?_) (fun D2 ys H4 e4 hD2 hys => ?_)))
        · obtain rfl : x = nv o := r
          have e34 := e3.trans e4
          have how := OP.lt o ho
          refine ⟨rfl, un_and ⟨_, rfl, _, rfl, rIn_nat (e34 _ _ F.beg) ⟨_, rfl, br rfl (fun h1 => ?_) (fun h1 => ?_)⟩⟩⟩
          · have fl := fr_len W how
            have tll : (tallerIn w o).length ≤ (fr w o).length := List.length_filter_le _ _
            refine un_test (un_op (rd_lcT (R := NI) (S := NI) (l := tallerIn w o) (fun other => S.contains other) (fun o => o) (fun C0 q => ⟨_, rfl, _, rfl, .ref wa, w, o, rfl, F.web.mono (tup_of e34), W, how, fun x H5 e5 hx => ?_⟩) (by omega) ni_up ni_up (fun x z H5 N2 Kt2 hz e5 r2 kn2 ky2 => ?_) (fun D3 zs H5 e5 hD3 hzs => ?_)))
            · obtain ⟨ta, rfl, hta⟩ := hx
              exact q ta _ H5 e5 hta (tv_paired _ _)
            · obtain rfl : x = nv z := r2
              refine ⟨rfl, _, rfl, _, rfl, rIn_nat (e5 _ _ (e34 _ _ hsb)) ⟨_, rfl, br rfl (fun h2 => ?_) (fun h2 => ?_)⟩⟩
              · exact ⟨_, rfl, ky2 h2 _ _ (Same.refl _) rfl⟩
              · exact kn2 h2 _ (Same.refl _)
            · have ez : zs = tv ((tallerIn w o).filter fun other => S.contains other) := by
                have q := paired_eq nv hzs
                rw [q, List.map_map]
                rfl
              subst ez
              refine ⟨Nat.zero_le _, fun p5 hp5 => rEq_lst (ms := []) (same_new hp5 _ _ hD3) upd_same ⟨_, rfl, br (c := ((tallerIn w o).filter fun other => S.contains other).isEmpty) ?_ (fun h2 => ?_) (fun h2 => ?_)⟩⟩
              · cases (tallerIn w o).filter fun other => S.contains other with
                | nil => rfl
                | cons _ _ => rfl
              · exact ⟨_, rfl, ky (by dsimp only; rw [h1, h2]; rfl) _ _ (e5.trans (same_new hp5)) rfl⟩
              · exact kn (by dsimp only; rw [h1, h2]; rfl) _ (e5.trans (same_new hp5))
          · exact kn (by dsimp only; rw [h1]; rfl) _ (Same.refl _)
        · have e : ys = tv (people.filter fun one => s.contains one && ((tallerIn w one).filter fun other => S.contains other).isEmpty) := by
            have q := paired_eq nv hys
            rw [q, List.map_map]
            rfl
          subst e
          refine ⟨Nat.zero_le _, fun p5 hp5 => rEq_lst (ms := []) (same_new hp5 _ _ hD2) upd_same ⟨_, rfl, br (c := (people.filter fun one => s.contains one && ((tallerIn w one).filter fun other => S.contains other).isEmpty).isEmpty) ?_ (fun h2 => ?_) (fun h2 => ?_)⟩⟩
          · cases people.filter fun one => s.contains one && ((tallerIn w one).filter fun other => S.contains other).isEmpty with
            | nil => rfl
            | cons _ _ => rfl
          · have e5 := e3.trans (e4.trans (same_new (o := .lst []) hp5))
            generalize upd H4 p5 (.lst []) = H5 at e5
            have hg : (fun S => (S.filter fun one => !s.contains one).isEmpty && (people.filter fun one => s.contains one && ((tallerIn w one).filter fun other => S.contains other).isEmpty).isEmpty) S = true := by
              show ((S.filter fun o => !s.contains o).isEmpty && _) = true
              rw [hA, h2]
              rfl
            have hle := flt_len (choices (List.range w.length)) i (fun S => (S.filter fun one => !s.contains one).isEmpty && (people.filter fun one => s.contains one && ((tallerIn w one).filter fun other => S.contains other).isEmpty).isEmpty)
            refine ⟨_, rfl, .inl ⟨rfl, _, SqL.of (e5 _ _ hG1)⟩, _, rfl, sb, _, rfl, .inr (SqT.of (e5 _ _ hsb)), G, _, _, rfl, rfl, e5 _ _ hG1, by rw [List.length_map, List.length_map, sizeLine_eq]; omega, ?_⟩
            have exr : ExtR G H' (upd H5 G (.lst (tv ((((choices (List.range w.length)).take i).filter (fun S => (S.filter fun one => !s.contains one).isEmpty && (people.filter fun one => s.contains one && ((tallerIn w one).filter fun other => S.contains other).isEmpty).isEmpty)).map List.length) ++ [.int ((tv S).length : Nat)]))) := (ExtR.of e5).trans ExtR.upd
            have tu := tup_extR ⟨_, hG1⟩ exr
            refine ⟨F.extR ⟨_, hG1⟩ exr, tu _ _ hpb1, exr _ _ hGD hD1, paired_mono (fun _ _ => Ppl.mono tu) hp1, ?_, _, rfl⟩
            rw [upd_same, flt_pos hSi hg, List.map_append, List.length_map]
            show some (HO.lst _) = some (HO.lst (tv (_ ++ [S.length])))
            rw [tv_app]
          · exact skip _ (e3.trans (e4.trans (same_new hp5))) (by
              show ((S.filter fun o => !s.contains o).isEmpty && _) = false
              rw [hA, h2]
              rfl)
      · exact iteF (skip _ e3 (by
          show ((S.filter fun o => !s.contains o).isEmpty && _) = false
          have : (S.filter fun o => !s.contains o).isEmpty = false := by
            cases hq : S.filter fun o => !s.contains o with
            | nil =>
              rw [hq] at h
              cases h
            | cons _ _ => rfl
          rw [this]
          rfl))
    obtain ⟨F14, hpb14, _, _, hG14, u9, rfl⟩ := p
    have hxl := paired_len hp
    rw [hxl, List.take_length] at hG14
    replace hG14 : H' G = some (.lst (tv ((goodL w s people).map List.length))) := hG14
    clear hp hD e13 hDn hG12 hpb12 F12
    exact rE w s people a R wa bb tb pb G u5 u6 u9 H' W hw6 O OP F14 hpb14 hG14
end
theorem ok_law {c Pt C CS f : Addr} {fd : FuncData} {T : List (Addr × Str)} (F : FnP K "law" sLaw f fd) (hc : fd.code = .ref c) (L : LawG P w K mg base T C CS c Pt) :
    FnOk P w K mg base CX0 20 f fd ["_law_script"] (spLaw K T) := by
  refine fnOkC_of F hc scLaw (fun vs H Q E h => ?_) (fun A outer s H vs Q E hr h => ?_)
  · obtain ⟨a, ns, rfl, _⟩ := h
    rfl
  · obtain ⟨a, ns, rfl, hS, hT, k⟩ := h
    obtain ⟨uD, hD8, rD⟩ := law_d (Q := Q) (f := f) (A := A) (outer := outer) (s0 := s) (H0 := H) (E := E) L hr k
    suffices hh : ∃ t, PSs ((cxOf CX0 P w K mg base ["_law_script", "_law_row", "_law_web_here", "_law_begin", "_law_tops", "_law_person", "_law_need", "_law_people", "_law_good", "_law_some", "_law_few", "_law_here", "_law_end", "_law_one", "_law_other"] "law" (defScope sLaw) f (.ref c) A outer s H E).nox) (defBody sLaw) t ∧ t { nx := fun _ H' => Q .non H', rt := Q } (L2.start ["_law_script", "_law_row", "_law_web_here", "_law_begin", "_law_tops", "_law_person", "_law_need", "_law_people", "_law_good", "_law_some", "_law_few", "_law_here", "_law_end", "_law_one", "_law_other"] [.ref a]) H by
      obtain ⟨t, h1, h2⟩ := hh
      exact ⟨t, PSs.nox h1, h2⟩
    obtain ⟨B, M, F_told, DT, g_law_web, g_law_up, g_peaks, g_everybody, g_can_stand, g_can_sit, g_least_end, g_law_pick, g_law_sets, g_taller, g_fewest_standing, g_distance, g_left_with, g_reached, g_ends, g_nearest_ends, g_calls_to_end, g_calls_to_sit, g_calls_to_sit_all, g_calls_to_alone, g_calls_to_end_with, g_calls_to_size⟩ := L
    refine ⟨_, (pss_cons (ps_set (i := 1) scLaw.nd rfl (Or.inl rfl) (pe_lst (pa_cons (pv 0) (pa_cons pe_int (pa_cons pe_int (pa_cons pe_int pa_nil))))))
      (pss_cons (ps_set (i := 2) scLaw.nd rfl (Or.inr rfl) (pe_fn (g_law_web.mono (by decide)) hr (pa_cons (pv 1) (pa_cons pe_int pa_nil))))
      (pss_cons (ps_set (i := 3) scLaw.nd rfl (Or.inr rfl) (pe_fn (g_law_up.mono (by decide)) hr (pa_cons (pv 1) (pa_cons (pv 2) pa_nil))))
      (pss_cons (ps_set (i := 4) scLaw.nd rfl (Or.inr rfl) (pe_fn (g_peaks.mono (by decide)) hr (pa_cons (pv 2) (pa_cons (pv 3) pa_nil))))
      (pss_cons (ps_for PassesOwn.never rfl (pi_tup (pe_fn (g_everybody.mono (by decide)) hr (pa_cons (pv 2) pa_nil))) (pg_name (i := 5) scLaw.nd rfl (Or.inr rfl)) (pss_cons (ps_set (i := 6) scLaw.nd rfl (Or.inl rfl) (pe_told (k := 5) F_told DT (by rfl) M.tb rfl M.mem M.uniq (hr.mono (by decide)) (lamS_by (sc := defScope sLaw) (by decide +kernel)) rfl (fun _ _ _ _ _ => rfl) (fun A outer s H E f c' hr' => pe_fnX g_calls_to_sit hr' (passes_call (takes_of rfl rfl rfl rfl) (fun _ _ _ _ h => h)) (pa_cons (pv 2) (pa_cons (pv 3) (pa_cons (pv 5) pa_nil))))))
      (pss_cons (ps_if (pt_cmpR (r := rNeD K) (op_neD hr.units) (pv 6) (pe_ifExp (pt_cmpR (r := rIn K true) op_notIn_seq (pv 5) (pv 3) rfl) pe_int (pe_ifExp (pt_cmpR (r := rIn K false) op_in_seq (pv 5) (pv 4) rfl) pe_non pe_int)) (nomark _)) (pss_one (ps_ret pe_bl)) pss_nil)
      (pss_cons (ps_if (pt_cmpR (r := rEqD K) (op_eqD hr.units) (pe_cmp (pc_isN (pe_told (k := 5) F_told DT (by rfl) M.tb rfl M.mem M.uniq (hr.mono (by decide)) (lamS_by (sc := defScope sLaw) (by decide +kernel)) rfl (fun _ _ _ _ _ => rfl) (fun A outer s H E f c' hr' => pe_fnX g_calls_to_end_with hr' (passes_call (takes_of rfl rfl rfl rfl) (fun _ _ _ _ h => h)) (pa_cons (pv 2) (pa_cons (pv 3) (pa_cons (pv 5) pa_nil))))))) (pe_fn (g_can_stand.mono (by decide)) hr (pa_cons (pv 2) (pa_cons (pv 3) (pa_cons (pv 5) pa_nil)))) (nomark _)) (pss_one (ps_ret pe_bl)) pss_nil)
      (pss_one (ps_if (pt_cmpR (r := rEqD K) (op_eqD hr.units) (pe_cmp (pc_isN (pe_told (k := 5) F_told DT (by rfl) M.tb rfl M.mem M.uniq (hr.mono (by decide)) (lamS_by (sc := defScope sLaw) (by decide +kernel)) rfl (fun _ _ _ _ _ => rfl) (fun A outer s H E f c' hr' => pe_fnX g_calls_to_alone hr' (passes_call (takes_of rfl rfl rfl rfl) (fun _ _ _ _ h => h)) (pa_cons (pv 2) (pa_cons (pv 3) (pa_cons (pv 5) pa_nil))))))) (pe_fn (g_can_stand.mono (by decide)) hr (pa_cons (pv 2) (pa_cons (pv 3) (pa_cons (pv 5) pa_nil)))) (nomark _)) (pss_one (ps_ret pe_bl)) pss_nil))))))
      (pss_cons (ps_if (pt_cmpR (r := rNeD K) (op_neD hr.units) (pe_fn (g_can_sit.mono (by decide)) hr (pa_cons (pv 2) (pa_cons (pv 3) pa_nil))) (pe_callTy (r := rTuple K) call_tuple_of (by rfl) B.tuple boot_tuple (pa_cons (pe_lc (wi := iTup K _) (own := [("_law_person", 5)]) (g := gName 5) (tt := _) rfl scLaw.nd (pi_tup (pv 3)) (blkOk_by (N := ["_law_script", "_law_row", "_law_web_here", "_law_begin", "_law_tops", "_law_person", "_law_need", "_law_people", "_law_good", "_law_some", "_law_few", "_law_here", "_law_end", "_law_one", "_law_other"]) (sc := (defScope sLaw)) (by decide +kernel)) (fun _ _ _ _ _ => (pg_name (i := 5) scLaw.nd rfl (Or.inl rfl))) (fun _ _ _ _ _ => pts_one (pt_cmpR (r := rIn K true) op_notIn_seq (pv 5) (pv 4) rfl)) (fun _ _ _ _ _ => (pv 5))) pa_nil)) (nomark _)) (pss_one (ps_ret pe_bl)) pss_nil)
      (pss_cons (ps_if (pt_cmpR (r := rNeD K) (op_neD hr.units) (pe_fn (g_least_end.mono (by decide)) hr (pa_cons (pv 2) (pa_cons (pv 3) pa_nil))) (pv 4) (nomark _)) (pss_one (ps_ret pe_bl)) pss_nil)
      (pss_cons (ps_asg (pe_tup (pa_cons (pe_fn (g_law_pick.mono (by decide)) hr (pa_cons (pv 1) (pa_cons (pe_fn (g_law_sets.mono (by decide)) hr (pa_cons (pe_callB (r := rLen K) call_len_seq (by rfl) B.len boot_len (pa_cons (pv 2) pa_nil)) pa_nil)) pa_nil))) (pa_cons (pe_lst pa_nil) pa_nil))) (pg_tup rfl (pgs_cons (pg_name (i := 7) scLaw.nd rfl (Or.inr rfl)) (pgs_cons (pg_name (i := 8) scLaw.nd rfl (Or.inl rfl)) pgs_nil))))
      hD8)))))))), ?_⟩
    refine un_seq ⟨_, rfl, by show 4 ≤ sizeLine; decide, fun R hR => ?_⟩
    have eR := same_new (o := .lst [.ref a, .int 0, .int 9946, .int 0]) hR
    have hrow : RowAt K (upd H R (.lst [.ref a, .int 0, .int 9946, .int 0])) R a ns := row_new hR hS
    have hT1 := hT.ext eR
    refine un_seq ⟨_, rfl, R, a, ns, rfl, hrow, fun v w H2 e2 hrow2 W hw6 hv2 => ?_⟩
    have hT2 := tabs_extR hT1 hrow.lst e2
    obtain ⟨wa, wxs, rfl, hwa, hwp⟩ := id hv2
    have hwl : wxs.length = w.length := paired_len hwp
    have hW1 := W.pos
    refine un_seq ⟨_, rfl, _, rfl, R, a, ns, .ref wa, w, rfl, hv2, W, hrow2, fun bx s H3 O e3 hrow3 hb3 => ?_⟩
    obtain ⟨bb, rfl, hbb⟩ := hb3
    have hT3 := tabs_extR hT2 hrow2.lst e3
    have hv3 := hv2.mono (tup_extR hrow2.lst e3)
    have hsl := SetOk.len O
    refine un_seq ⟨_, rfl, _, rfl, .ref wa, .ref bb, w, s, rfl, hv3, W, ⟨bb, rfl, hbb⟩, O, fun tx H4 e4 ht4 => ?_⟩
    obtain ⟨tb, rfl, htb⟩ := ht4
    have F4 : Lf T wa bb tb w s H4 := ⟨hT3.ext e4, hv3.mono (tup_of e4), e4 _ _ hbb, htb⟩
    have hrow4 := hrow3.ext e4
    have hpk : SetOk w.length (peaksIn w s) := O.filter _
    have hpl := SetOk.len hpk
    -- one person after another
    refine un_seq ⟨_, rfl, .ref wa, w, rfl, F4.web, W, fun y H5 e5 hy => ?_⟩
    obtain ⟨eb, rfl, heb⟩ := hy
    refine ⟨eb, rfl, ⟨_, SqT.of heb⟩, for_tup (xs := tv (List.range w.length)) (fun i σ H' => Lf T wa bb tb w s H' ∧ RowAt K H' R a ns ∧ H' eb = some (.tup (tv (List.range w.length))) ∧ ∃ u5 u6, σ = [some (.ref a), some (.ref R), some (.ref wa), some (.ref bb), some (.ref tb), u5, u6, none, none, none, none, none, none, none, none]) ⟨F4.same e5, hrow4.ext e5, heb, none, none, rfl⟩ (fun i σ H' _ p => SqT.of p.2.2.1) (fun i x σ H' hx p => ?_) (fun σ H' p => ?_)⟩
    · obtain ⟨F, hrw, heb1, u5, u6, rfl⟩ := p
      obtain ⟨c, hc, rfl⟩ := tv_get hx
      have hcw : c < w.length := List.mem_range.mp (List.mem_of_getElem? hc)
      refine un_seq (un_asg (rd_told (w := w) (s := s) (fn := fun t => !t.contains c) F.tabs (fun H1 E e1 hT1 ho => ⟨_, rfl, _, rfl, _, rfl, .ref wa, .ref bb, w, s, c, rfl, F.web.mono (tup_extN e1), W, ⟨bb, rfl, tup_extN e1 _ _ F.beg⟩, O, hcw, hT1, ho⟩) (fun r H6 e6 hT6 hL => ?_)))
      have hrr := hL.inj (sit_least W O c)
      have F6 := F.extN e6 hT6
      have heb6 := tup_extN e6 _ _ heb1
      have hrw6 := hrw.extN e6
      refine un_seq (un_if (rd_need (r := r) rfl rfl rfl rfl F6.beg F6.tops hrr (iteF ?_)))
      try dsimp only [tNext]
      refine un_seq (un_if (un_test (un_op (un_isn (rd_told (w := w) (s := s) (fn := fun t => t.contains c && apart w t) F6.tabs (fun H1 E e1 hT1 ho => ⟨_, rfl, _, rfl, _, rfl, .ref wa, .ref bb, w, s, c, rfl, F6.web.mono (tup_extN e1), W, ⟨bb, rfl, tup_extN e1 _ _ F6.beg⟩, O, hcw, hT1, ho⟩) (fun r7 H7 e7 hT7 hL7 => ?_))))))
      have F7 := F6.extN e7 hT7
      refine ⟨_, rfl, _, rfl, _, rfl, .ref wa, .ref bb, w, s, c, rfl, F7.web, W, F7.pb, O, hcw, fun b8 H8 e8 hb8 => rEq_bl ⟨_, rfl, ?_⟩⟩
      rw [told_ne (end_least W O c hL7) hb8]
      refine iteF ?_
      have F8 := F7.same e8
      try dsimp only [tNext]
      refine un_if (un_test (un_op (un_isn (rd_told (w := w) (s := s) (fn := fun t => t.contains c && !((fr w c).any fun q => t.contains q)) F8.tabs (fun H1 E e1 hT1 ho => ⟨_, rfl, _, rfl, _, rfl, .ref wa, .ref bb, w, s, c, rfl, F8.web.mono (tup_extN e1), W, ⟨bb, rfl, tup_extN e1 _ _ F8.beg⟩, O, hcw, hT1, ho⟩) (fun r9 H9 e9 hT9 hL9 => ?_)))))
      have F9 := F8.extN e9 hT9
      refine ⟨_, rfl, _, rfl, _, rfl, .ref wa, .ref bb, w, s, c, rfl, F9.web, W, F9.pb, O, hcw, fun b10 H10 e10 hb10 => rEq_bl ⟨_, rfl, ?_⟩⟩
      rw [told_ne (alone_least W O c hL9) hb10]
      exact iteF ⟨F9.same e10, (((hrw6.extN e7).ext e8).extN e9).ext e10, e10 _ _ (tup_extN e9 _ _ (e8 _ _ (tup_extN e7 _ _ heb6))), _, _, rfl⟩
    obtain ⟨F5, hrow5, _, u5, u6, rfl⟩ := p
    -- who can sit
    try dsimp only [tNext]
    refine un_seq (un_if (un_test (un_op ⟨_, rfl, _, rfl, .ref wa, .ref bb, w, s, rfl, F5.web, W, F5.pb, O, fun x L H6 e6 hL hx => ?_⟩)))
    have F6 := F5.same e6
    try dsimp only [tNext]
    refine un_cb (un_cons (rd_lcT (R := NI) (S := NI) (l := s) (fun o => !(peaksIn w s).contains o) (fun o => o) (src_ppl (by rfl) F6.beg) (by omega) ni_up ni_up (fun x o H7 N Kt ho e7 r kn ky => ?_) (fun D ys H7 e7 hD hys => ?_)))
    · obtain rfl : x = nv o := r
      refine ⟨rfl, _, rfl, _, rfl, rNotIn_nat (e7 _ _ F6.tops) ⟨_, rfl, br rfl (fun h => ?_) (fun h => ?_)⟩⟩
      · exact ⟨_, rfl, ky h _ _ (Same.refl _) rfl⟩
      · exact kn h _ (Same.refl _)
    have e : ys = tv (s.filter fun o => !(peaksIn w s).contains o) := by
      have q := paired_eq nv hys
      rw [q, List.map_map]
      rfl
    subst e
    refine ⟨D, _, rfl, .inl ⟨SqL.of hD, fun l hl => rNe_ppl (hx.mono (tup_of (e7.trans (same_new hl)))) ⟨l, rfl, upd_same⟩ ⟨_, rfl, ?_⟩⟩⟩
    rw [decide_eq_true (can_sit_eq W O hL)]
    refine iteF ?_
    have F7 := F6.same (e7.trans (same_new (o := .tup (tv (s.filter fun o => !(peaksIn w s).contains o))) hl))
    have hrow7 := ((hrow5.ext e6).ext e7).ext (same_new (o := .tup (tv (s.filter fun o => !(peaksIn w s).contains o))) hl)
    generalize upd H7 l (.tup (tv (s.filter fun o => !(peaksIn w s).contains o))) = H8 at F7 hrow7
    clear hD hys hl D e7 hx e6 F6 F5 hrow5
    -- the least end
    try dsimp only [tNext]
    refine un_seq (un_if (un_test (un_op ⟨_, rfl, _, rfl, .ref wa, .ref bb, w, s, rfl, F7.web, W, F7.pb, O, fun x H9 e9 hx => ⟨_, rfl, rNe_ppl hx ⟨tb, rfl, e9 _ _ F7.tops⟩ ⟨_, rfl, ?_⟩⟩⟩)))
    rw [decide_eq_true rfl]
    refine iteF ?_
    have F9 := F7.same e9
    have hrow9 := hrow7.ext e9
    -- some people
    try dsimp only [tNext]
    obtain ⟨wa', wys, ew, hwy, hwq⟩ := id F9.web
    cases ew
    have hwyl : wys.length = w.length := paired_len hwq
    have hch : ∀ n, n ≤ 7 → 1 ≤ (choices (List.range n)).length ∧ (choices (List.range n)).length ≤ 128 := fun n hn => by
      rw [choices_len _ _ rfl, List.length_range]
      exact ⟨Nat.one_le_two_pow, Nat.pow_le_pow_right (by decide) hn⟩
    refine un_seq ⟨_, rfl, _, rfl, wa, wys, rfl, .inr (SqT.of hwy), wys.length, rfl, by omega, fun D xs H10 hDn e10 hD hp => ?_⟩
    have hrow10 := hrow9.ext e10
    have hDR : D ≠ R := fun z => by
      obtain ⟨q, h⟩ := hrow9.lst
      rw [z, h] at hDn
      cases hDn
    refine ⟨R, a, ns, D, xs, choices (List.range wys.length), rfl, hDR, hD, hp, (hch _ (by omega)).1, by have := (hch wys.length (by omega)).2; omega, hrow10, fun px people H11 hpm e11 hrow11 hpx => ?_⟩
    have F11 := (F9.same e10).extR hrow10.lst e11
    obtain ⟨pb, rfl, hpb⟩ := hpx
    have hps : people.Sublist (List.range w.length) := by
      rw [← hwyl]
      exact choices_mem.mp hpm
    have OP : SetOk w.length people := ⟨List.pairwise_lt_range.sublist hps, fun p hp => List.mem_range.mp (hps.subset hp)⟩
    have hppl := SetOk.len OP
    refine ⟨Nat.zero_le _, fun G hG => ⟨by show 2 ≤ sizeLine; decide, fun tt htt => ⟨tt, _, rfl, SqT.of upd_same, rfl, _, _, rfl, _, _, rfl, rfl, ?_⟩⟩⟩
    have eG : Same H11 (upd (upd H11 G (.lst [])) tt (.tup [.ref pb, .ref G])) := (same_new hG).trans (same_new htt)
    have F12 := F11.same eG
    have hpb12 := eG _ _ hpb
    have hG12 : (upd (upd H11 G (.lst [])) tt (.tup [.ref pb, .ref G])) G = some (.lst []) := same_new htt _ _ upd_same
    generalize upd (upd H11 G (.lst [])) tt (.tup [.ref pb, .ref G]) = H12 at F12 hpb12 hG12
    clear hrow11 hrow10 hrow9 hrow7 eG htt hG e11 hpm hDR hp hD e10 hDn
    exact rD w s people a R wa bb tb pb G u5 u6 H12 W hw6 O OP F12 hpb12 hG12
end
end Ts



set_option Elab.async false
set_option linter.all false
set_option maxRecDepth 100000
set_option maxHeartbeats 0
namespace Ts
open PySem PySem.Spec PyProof.Rows L2
def dD (x : Str) (st : Stmt) : He.DefD := ⟨(x, none), x, x, defArgs st, defBody st, defScope st, [], []⟩
def fnL : List He.DefD := [dD "is_integer" sIsInteger, dD "is_in" sIsIn, dD "is_list" sIsList, dD "need_web" sNeedWeb, dD "is_set" sIsSet, dD "need_people" sNeedPeople, dD "need_state" sNeedState, dD "need_two" sNeedTwo, dD "need_person" sNeedPerson, dD "taller" sTaller, dD "taller_in" sTallerIn, dD "peaks_in" sPeaksIn, dD "peaks" sPeaks, dD "everybody" sEverybody, dD "apart_in" sApartIn, dD "choices" sChoices, dD "call_in" sCallIn, dD "movers_in" sMoversIn, dD "may_call" sMayCall, dD "fits" sFits, dD "need_way" sNeedWay, dD "leads" sLeads, dD "telling_in" sTellingIn, dD "distance" sDistance, dD "reached_from" sReachedFrom, dD "reached" sReached, dD "least_of" sLeastOf, dD "calls_to_end" sCallsToEnd, dD "nearest_ends" sNearestEnds, dD "calls_to_sit" sCallsToSit, dD "calls_to_sit_all" sCallsToSitAll, dD "calls_to_alone" sCallsToAlone, dD "calls_to_end_with" sCallsToEndWith, dD "calls_to_size" sCallsToSize, dD "fewest_standing" sFewestStanding, dD "can_sit" sCanSit, dD "left_with" sLeftWith, dD "ends_in" sEndsIn, dD "ends" sEnds, dD "least_end" sLeastEnd, dD "can_stand" sCanStand, dD "_law_taken" sLawTaken, dD "_law_pick" sLawPick, dD "_law_by" sLawBy, dD "_law_web" sLawWeb, dD "_law_sets" sLawSets, dD "_law_up" sLawUp, dD "_law_told" sLawTold, dD "law" sLaw]
def faL : List He.Fa := [.glo "is_integer", .glo "is_in", .glo "is_list", .glo "need_web", .glo "is_set", .glo "need_people", .glo "need_state", .glo "need_two", .glo "need_person", .glo "taller", .glo "taller_in", .glo "peaks_in", .glo "peaks", .glo "everybody", .glo "apart_in", .glo "choices", .glo "call_in", .glo "movers_in", .glo "may_call", .glo "fits", .glo "need_way", .glo "leads", .glo "telling_in", .glo "distance", .glo "reached_from", .glo "reached", .glo "least_of", .glo "calls_to_end", .glo "nearest_ends", .glo "calls_to_sit", .glo "calls_to_sit_all", .glo "calls_to_alone", .glo "calls_to_end_with", .glo "calls_to_size", .glo "fewest_standing", .glo "can_sit", .glo "left_with", .glo "ends_in", .glo "ends", .glo "least_end", .glo "can_stand", .glo "_law_taken", .glo "_law_pick", .glo "_law_by", .glo "_law_web", .glo "_law_sets", .glo "_law_up", .glo "_law_told", .glo "law", .glo "SitError", .glo "BadWeb", .glo "BadStanding", .glo "BadPerson", .glo "BadPeople", .glo "BadNumber", .glo "NotMade", .free "isinstance", .free "int", .free "bool", .free "tuple", .free "len", .free "enumerate", .free "all", .free "any", .free "list", .free "sorted", .free "set", .free "min", .free "range", .int "MOST_PEOPLE" 7, .exc "NotMade", .exm "NotMade" "SitError" true, .keep "NotMade", .keep "SitError"]
def tfL : List He.Defn := [("law", none), ("calls_to_end", none), ("calls_to_sit", none), ("calls_to_sit_all", none), ("calls_to_alone", none), ("calls_to_end_with", none), ("calls_to_size", none)]
def exB (K : PySem.W.Frag) : Bool :=
  He.eqO (PySem.W.findIn K (.ref (He.ga K "NotMade")) "__getattribute__") (some (some (.builtin "BaseException.__getattribute__"))) &&
  He.eqO (PySem.W.findIn K (.ref (He.ga K "NotMade")) "__getattr__") (some none) &&
  PySem.W.hasDictIn K (He.ga K "NotMade") &&
  He.eqO (PySem.W.findIn K (.ref (He.ga K "NotMade")) "__class__") (some (some (.builtin "object.__class__"))) &&
  He.eqO (PySem.W.specialIn K (.builtin "object.__class__") "__get__") (some (some (.builtin "getset_descriptor.__get__"))) &&
  decide (PySem.W.takesIn K (.builtin "object.__class__") = some true) &&
  decide (PySem.W.mroIn K (He.ga K "NotMade") (.type "object") = some true) &&
  decide (PySem.W.kitOne K (.ref (He.ga K "NotMade")) (.ref (He.ga K "NotMade")) = some true) &&
  decide ((tfL.map fun p => (He.cT K p).2).Nodup)
abbrev Rw : PySem.W.OpenRow := PySem.W.OpenLaw.row PySem.Challenge.rw_tallsits_k46_whole_wishes_compared
abbrev hkX : PySem.W.Hook := He.hookX 4 faL fnL [] tfL exB
def obX (s : PySem.W.SharedT) : He.AlX := He.obsX 4 faL fnL [] tfL exB (HandSHeadRun.getT s)
theorem obX_eq (s : PySem.W.SharedT) : obX s = hkX.obs s.abs := He.obsX_eq (HandSHeadRun.getT_eq s)
def loose0 : List PySem.Str := ["is_integer", "is_in", "is_list", "SitError", "BadWeb", "BadStanding", "BadPerson", "BadPeople", "BadNumber", "NotMade", "MOST_PEOPLE", "need_web", "is_set", "need_people", "need_state", "need_two", "need_person", "taller", "taller_in", "peaks_in", "peaks", "everybody", "apart_in", "choices", "call_in", "movers_in", "may_call", "fits", "need_way", "leads"]
def loose1 : List PySem.Str := ["telling_in", "distance", "reached_from", "reached", "least_of", "calls_to_end", "nearest_ends", "calls_to_sit", "calls_to_sit_all", "calls_to_alone", "calls_to_end_with", "calls_to_size", "fewest_standing", "can_sit", "left_with", "ends_in", "ends", "least_end", "can_stand", "_law_taken", "_law_pick", "_law_by", "_law_web", "_law_sets", "_law_up", "_law_told"]
def looseL : List PySem.Str := loose0 ++ loose1
theorem run (w : World) : HandSHeadRun.RunEq Rw (PySem.W.view Rw.prog [64]) hkX obX 20000 looseL w := by
  intro os
  kernel_rfl
end Ts


set_option Elab.async false
set_option linter.all false
set_option maxRecDepth 100000
set_option maxHeartbeats 0
namespace Ts
open PySem PySem.Spec PyProof.Rows L2 Tm LamX
section
variable {w : World} {h : Heap} {K : PySem.W.Frag} {mg : Str → Option Value}
theorem fnd_at (KX : K.In h) (G : h.Ns mainGlobals mg) (c : He.SaysX faL fnL [] tfL exB w h K) {x : Str} {st : Stmt} (h1 : dD x st ∈ fnL) (h2 : He.Fa.glo x ∈ faL) :
    ∃ fd, FnP K x st (He.ga K x) fd ∧ mg x = some (.ref (He.ga K x)) ∧ fd.code = .ref (He.codeOf K (x, none)) := by
  obtain ⟨fd, F⟩ := c.t.d.defs h1
  have F2 : FnP K x st (He.ga K x) fd := F
  refine ⟨fd, F2, He.glo_ok KX G (c.t.d.facts h2), ?_⟩
  obtain ⟨oc, od, dV, kV, doc, pm, an, cdv, ct, osl, rfl, lk, hcd, _, _⟩ := F2.ex
  obtain ⟨cc, hcc⟩ := He.codeIn_ref hcd
  subst hcc
  have e := He.codeOf_eq (K := K) (p := (x, none)) lk rfl
  rw [e]
theorem fnd_of (KX : K.In h) (G : h.Ns mainGlobals mg) (c : He.SaysX faL fnL [] tfL exB w h K) {x : Str} {st : Stmt} (h1 : dD x st ∈ fnL) (h2 : He.Fa.glo x ∈ faL) : FnD K mg x st := by
  obtain ⟨fd, F, hm, _⟩ := fnd_at KX G c h1 h2
  exact ⟨_, fd, F, hm⟩
theorem fndc_of (KX : K.In h) (G : h.Ns mainGlobals mg) (c : He.SaysX faL fnL [] tfL exB w h K) {x : Str} {st : Stmt} (h1 : dD x st ∈ fnL) (h2 : He.Fa.glo x ∈ faL) : FnDC K mg x st (He.codeOf K (x, none)) := by
  obtain ⟨fd, F, hm, hc⟩ := fnd_at KX G c h1 h2
  exact ⟨_, fd, F, hm, hc⟩
/-- the tables and their names -/
def tabL (K : PySem.W.Frag) : List (Addr × Str) := tfL.map fun p => ((He.cT K p).2, (p.1 ++ ".<locals>.") ++ "<lambda>")
theorem map_inj {α β : Type} {f : α → β} : ∀ {l : List α}, (l.map f).Nodup → ∀ {a b : α}, a ∈ l → b ∈ l → f a = f b → a = b
  | [], _, _, _, h, _, _ => by cases h
  | x :: l, hn, a, b, ha, hb, e => by
    rw [List.map_cons, List.nodup_cons] at hn
    rcases List.mem_cons.mp ha with ha | ha <;> rcases List.mem_cons.mp hb with hb | hb
    · rw [ha, hb]
    · exact absurd (List.mem_map.mpr ⟨b, hb, by rw [← e, ha]⟩) hn.1
    · exact absurd (List.mem_map.mpr ⟨a, ha, by rw [e, hb]⟩) hn.1
    · exact map_inj hn.2 ha hb e
theorem mkr_of {base : Heap} (hn : (tfL.map fun p => (He.cT K p).2).Nodup) (TB : ∀ p ∈ tfL.map (He.cT K), TabB base mg p.1 p.2) {x : Str} (hx : (x, none) ∈ tfL) : Mkr base mg (tabL K) x (He.codeOf K (x, none)) (He.cT K (x, none)).2 := by
  refine ⟨TB (He.cT K (x, none)) (List.mem_map.mpr ⟨_, hx, rfl⟩), List.mem_map.mpr ⟨_, hx, rfl⟩, fun p hp e => ?_⟩
  obtain ⟨y, hy, rfl⟩ := List.mem_map.mp hp
  have e2 := map_inj hn hy hx e
  rw [e2]
theorem law_g {P : Program} {base : Heap} (KX : K.In h) (G : h.Ns mainGlobals mg) (c : He.SaysX faL fnL [] tfL exB w h K) (TB : ∀ p ∈ tfL.map (He.cT K), TabB base mg p.1 p.2) :
    LawG P w K mg base (tabL K) (He.ga K "NotMade") (He.ga K "SitError") (He.codeOf K ("law", none)) (He.cT K ("law", none)).2 := by
  have fa : ∀ {f : He.Fa}, f ∈ faL → f.ok K = true := fun hf => c.t.d.facts hf
  have hE := c.more
  unfold exB at hE
  simp only [Bool.and_eq_true] at hE
  obtain ⟨⟨⟨⟨⟨⟨⟨⟨x1, x2⟩, x3⟩, x4⟩, x5⟩, x6⟩, x7⟩, x8⟩, x9⟩ := hE
  have hnd : (tfL.map fun p => (He.cT K p).2).Nodup := of_decide_eq_true x9
  have B : Bt mg := ⟨He.free_ok KX G (fa (f := .free "isinstance") (List.mem_of_getElem? (i := 56) rfl)), He.free_ok KX G (fa (f := .free "int") (List.mem_of_getElem? (i := 57) rfl)), He.free_ok KX G (fa (f := .free "bool") (List.mem_of_getElem? (i := 58) rfl)), He.free_ok KX G (fa (f := .free "tuple") (List.mem_of_getElem? (i := 59) rfl)), He.free_ok KX G (fa (f := .free "len") (List.mem_of_getElem? (i := 60) rfl)), He.free_ok KX G (fa (f := .free "enumerate") (List.mem_of_getElem? (i := 61) rfl)), He.free_ok KX G (fa (f := .free "all") (List.mem_of_getElem? (i := 62) rfl)), He.free_ok KX G (fa (f := .free "any") (List.mem_of_getElem? (i := 63) rfl)), He.free_ok KX G (fa (f := .free "list") (List.mem_of_getElem? (i := 64) rfl)), He.free_ok KX G (fa (f := .free "sorted") (List.mem_of_getElem? (i := 65) rfl)), He.free_ok KX G (fa (f := .free "set") (List.mem_of_getElem? (i := 66) rfl)), He.free_ok KX G (fa (f := .free "min") (List.mem_of_getElem? (i := 67) rfl)), He.free_ok KX G (fa (f := .free "range") (List.mem_of_getElem? (i := 68) rfl))⟩
  have hM := He.int_ok (i := 7) KX G (fa (f := .int "MOST_PEOPLE" 7) (List.mem_of_getElem? (i := 69) rfl))
  obtain ⟨n1, n2, n3, n4⟩ := He.exc_ok (fa (f := .exc "NotMade") (List.mem_of_getElem? (i := 70) rfl))
  have gN : mg "NotMade" = some (.ref (He.ga K "NotMade")) := He.glo_ok KX G (fa (f := .glo "NotMade") (List.mem_of_getElem? (i := 55) rfl))
  have gS : mg "SitError" = some (.ref (He.ga K "SitError")) := He.glo_ok KX G (fa (f := .glo "SitError") (List.mem_of_getElem? (i := 49) rfl))
  have NM : NMk K mg (He.ga K "NotMade") := ⟨gN, n1, n2, n3, n4⟩
  have DT : Told K mg (He.ga K "NotMade") (He.ga K "SitError") := ⟨gS, gN, B.isinst, ⟨He.eqO_ok x1, He.eqO_ok x2, n3, x3, He.eqO_ok x4, He.eqO_ok x5, of_decide_eq_true x6, of_decide_eq_true x7⟩, of_decide_eq_true x8, He.exm_ok (fa (f := .exm "NotMade" "SitError" true) (List.mem_of_getElem? (i := 71) rfl))⟩
  have g_is_integer := ok_is_integer (P := P) (w := w) (base := base) (fnd_of KX G c (x := "is_integer") (st := sIsInteger) (List.mem_of_getElem? (i := 0) rfl) (List.mem_of_getElem? (i := 0) rfl)) B
  have g_is_in := ok_is_in (P := P) (w := w) (base := base) (fnd_of KX G c (x := "is_in") (st := sIsIn) (List.mem_of_getElem? (i := 1) rfl) (List.mem_of_getElem? (i := 1) rfl)) B g_is_integer
  have g_is_list := ok_is_list (P := P) (w := w) (base := base) (fnd_of KX G c (x := "is_list") (st := sIsList) (List.mem_of_getElem? (i := 2) rfl) (List.mem_of_getElem? (i := 2) rfl)) B
  have g_need_web := ok_need_web (P := P) (w := w) (base := base) (fnd_of KX G c (x := "need_web") (st := sNeedWeb) (List.mem_of_getElem? (i := 3) rfl) (List.mem_of_getElem? (i := 3) rfl)) B hM g_is_list g_is_in
  have g_is_set := ok_is_set (P := P) (w := w) (base := base) (fnd_of KX G c (x := "is_set") (st := sIsSet) (List.mem_of_getElem? (i := 4) rfl) (List.mem_of_getElem? (i := 4) rfl)) B g_is_list g_is_in
  have g_need_people := ok_need_people (P := P) (w := w) (base := base) (fnd_of KX G c (x := "need_people") (st := sNeedPeople) (List.mem_of_getElem? (i := 5) rfl) (List.mem_of_getElem? (i := 5) rfl)) B g_is_set
  have g_need_state := ok_need_state (P := P) (w := w) (base := base) (fnd_of KX G c (x := "need_state") (st := sNeedState) (List.mem_of_getElem? (i := 6) rfl) (List.mem_of_getElem? (i := 6) rfl)) B g_need_web g_is_set
  have g_need_two := ok_need_two (P := P) (w := w) (base := base) (fnd_of KX G c (x := "need_two") (st := sNeedTwo) (List.mem_of_getElem? (i := 7) rfl) (List.mem_of_getElem? (i := 7) rfl)) B g_need_state g_is_set
  have g_need_person := ok_need_person (P := P) (w := w) (base := base) (fnd_of KX G c (x := "need_person") (st := sNeedPerson) (List.mem_of_getElem? (i := 8) rfl) (List.mem_of_getElem? (i := 8) rfl)) B g_is_in
  have g_taller_in := ok_taller_in (P := P) (w := w) (base := base) (fnd_of KX G c (x := "taller_in") (st := sTallerIn) (List.mem_of_getElem? (i := 10) rfl) (List.mem_of_getElem? (i := 10) rfl)) B
  have g_taller := ok_taller (P := P) (w := w) (base := base) (fnd_of KX G c (x := "taller") (st := sTaller) (List.mem_of_getElem? (i := 9) rfl) (List.mem_of_getElem? (i := 9) rfl)) B g_need_web g_need_person g_taller_in
  have g_peaks_in := ok_peaks_in (P := P) (w := w) (base := base) (fnd_of KX G c (x := "peaks_in") (st := sPeaksIn) (List.mem_of_getElem? (i := 11) rfl) (List.mem_of_getElem? (i := 11) rfl)) B
  have g_peaks := ok_peaks (P := P) (w := w) (base := base) (fnd_of KX G c (x := "peaks") (st := sPeaks) (List.mem_of_getElem? (i := 12) rfl) (List.mem_of_getElem? (i := 12) rfl)) B g_need_state g_peaks_in
  have g_everybody := ok_everybody (P := P) (w := w) (base := base) (fnd_of KX G c (x := "everybody") (st := sEverybody) (List.mem_of_getElem? (i := 13) rfl) (List.mem_of_getElem? (i := 13) rfl)) B g_need_web
  have g_apart_in := ok_apart_in (P := P) (w := w) (base := base) (fnd_of KX G c (x := "apart_in") (st := sApartIn) (List.mem_of_getElem? (i := 14) rfl) (List.mem_of_getElem? (i := 14) rfl)) B
  have g_choices := ok_choices (P := P) (w := w) (base := base) (fnd_of KX G c (x := "choices") (st := sChoices) (List.mem_of_getElem? (i := 15) rfl) (List.mem_of_getElem? (i := 15) rfl)) B
  have g_call_in := ok_call_in (P := P) (w := w) (base := base) (fnd_of KX G c (x := "call_in") (st := sCallIn) (List.mem_of_getElem? (i := 16) rfl) (List.mem_of_getElem? (i := 16) rfl)) B
  have g_movers_in := ok_movers_in (P := P) (w := w) (base := base) (fnd_of KX G c (x := "movers_in") (st := sMoversIn) (List.mem_of_getElem? (i := 17) rfl) (List.mem_of_getElem? (i := 17) rfl)) B
  have g_may_call := ok_may_call (P := P) (w := w) (base := base) (fnd_of KX G c (x := "may_call") (st := sMayCall) (List.mem_of_getElem? (i := 18) rfl) (List.mem_of_getElem? (i := 18) rfl)) B
  have g_fits := ok_fits (P := P) (w := w) (base := base) (fnd_of KX G c (x := "fits") (st := sFits) (List.mem_of_getElem? (i := 19) rfl) (List.mem_of_getElem? (i := 19) rfl)) B g_may_call g_taller_in
  have g_need_way := ok_need_way (P := P) (w := w) (base := base) (fnd_of KX G c (x := "need_way") (st := sNeedWay) (List.mem_of_getElem? (i := 20) rfl) (List.mem_of_getElem? (i := 20) rfl)) B g_need_two g_fits
  have g_leads := ok_leads (P := P) (w := w) (base := base) (fnd_of KX G c (x := "leads") (st := sLeads) (List.mem_of_getElem? (i := 21) rfl) (List.mem_of_getElem? (i := 21) rfl)) B g_call_in
  have g_telling_in := ok_telling_in (P := P) (w := w) (base := base) (fnd_of KX G c (x := "telling_in") (st := sTellingIn) (List.mem_of_getElem? (i := 22) rfl) (List.mem_of_getElem? (i := 22) rfl)) B g_choices g_may_call g_leads
  have g_distance := ok_distance (P := P) (w := w) (base := base) (fnd_of KX G c (x := "distance") (st := sDistance) (List.mem_of_getElem? (i := 23) rfl) (List.mem_of_getElem? (i := 23) rfl)) B g_need_way g_telling_in
  have g_reached_from := ok_reached_from (P := P) (w := w) (base := base) (fnd_of KX G c (x := "reached_from") (st := sReachedFrom) (List.mem_of_getElem? (i := 24) rfl) (List.mem_of_getElem? (i := 24) rfl)) B g_movers_in g_call_in
  have g_reached := ok_reached (P := P) (w := w) (base := base) (fnd_of KX G c (x := "reached") (st := sReached) (List.mem_of_getElem? (i := 25) rfl) (List.mem_of_getElem? (i := 25) rfl)) B g_need_state g_reached_from
  have g_can_sit := ok_can_sit (P := P) (w := w) (base := base) (fnd_of KX G c (x := "can_sit") (st := sCanSit) (List.mem_of_getElem? (i := 35) rfl) (List.mem_of_getElem? (i := 35) rfl)) B g_need_state g_reached_from
  have g_ends_in := ok_ends_in (P := P) (w := w) (base := base) (fnd_of KX G c (x := "ends_in") (st := sEndsIn) (List.mem_of_getElem? (i := 37) rfl) (List.mem_of_getElem? (i := 37) rfl)) B g_choices g_apart_in g_fits
  have g_ends := ok_ends (P := P) (w := w) (base := base) (fnd_of KX G c (x := "ends") (st := sEnds) (List.mem_of_getElem? (i := 38) rfl) (List.mem_of_getElem? (i := 38) rfl)) B g_need_state g_ends_in
  have g_least_end := ok_least_end (P := P) (w := w) (base := base) (fnd_of KX G c (x := "least_end") (st := sLeastEnd) (List.mem_of_getElem? (i := 39) rfl) (List.mem_of_getElem? (i := 39) rfl)) B g_need_state g_peaks_in
  have g_can_stand := ok_can_stand (P := P) (w := w) (base := base) (fnd_of KX G c (x := "can_stand") (st := sCanStand) (List.mem_of_getElem? (i := 40) rfl) (List.mem_of_getElem? (i := 40) rfl)) B g_need_state g_need_person g_ends_in
  have g_fewest_standing := ok_fewest_standing (P := P) (w := w) (base := base) (fnd_of KX G c (x := "fewest_standing") (st := sFewestStanding) (List.mem_of_getElem? (i := 34) rfl) (List.mem_of_getElem? (i := 34) rfl)) B g_need_state g_reached_from
  have g_left_with := ok_left_with (P := P) (w := w) (base := base) (fnd_of KX G c (x := "left_with") (st := sLeftWith) (List.mem_of_getElem? (i := 36) rfl) (List.mem_of_getElem? (i := 36) rfl)) B g_need_state g_need_people g_reached_from
  have g_nearest_ends := ok_nearest_ends (P := P) (w := w) (base := base) (fnd_of KX G c (x := "nearest_ends") (st := sNearestEnds) (List.mem_of_getElem? (i := 28) rfl) (List.mem_of_getElem? (i := 28) rfl)) B g_need_state g_reached_from g_apart_in
  have g_law_taken := ok__law_taken (P := P) (w := w) (base := base) (fnd_of KX G c (x := "_law_taken") (st := sLawTaken) (List.mem_of_getElem? (i := 41) rfl) (List.mem_of_getElem? (i := 41) rfl)) B
  have g_law_pick := ok__law_pick (P := P) (w := w) (base := base) (fnd_of KX G c (x := "_law_pick") (st := sLawPick) (List.mem_of_getElem? (i := 42) rfl) (List.mem_of_getElem? (i := 42) rfl)) B g_law_taken
  have g_law_by := ok__law_by (P := P) (w := w) (base := base) (fnd_of KX G c (x := "_law_by") (st := sLawBy) (List.mem_of_getElem? (i := 43) rfl) (List.mem_of_getElem? (i := 43) rfl)) B
  have g_law_web := ok__law_web (P := P) (w := w) (base := base) (fnd_of KX G c (x := "_law_web") (st := sLawWeb) (List.mem_of_getElem? (i := 44) rfl) (List.mem_of_getElem? (i := 44) rfl)) B g_law_taken g_law_by
  have g_law_sets := ok__law_sets (P := P) (w := w) (base := base) (fnd_of KX G c (x := "_law_sets") (st := sLawSets) (List.mem_of_getElem? (i := 45) rfl) (List.mem_of_getElem? (i := 45) rfl)) B
  have g_law_up := ok__law_up (P := P) (w := w) (base := base) (fnd_of KX G c (x := "_law_up") (st := sLawUp) (List.mem_of_getElem? (i := 46) rfl) (List.mem_of_getElem? (i := 46) rfl)) B g_law_taken
  have g_least_of := ok_least_of (P := P) (w := w) (base := base) (fnd_of KX G c (x := "least_of") (st := sLeastOf) (List.mem_of_getElem? (i := 26) rfl) (List.mem_of_getElem? (i := 26) rfl)) B g_reached_from NM
  have g_calls_to_end := ok_calls_to_end (P := P) (w := w) (base := base) (fndc_of KX G c (x := "calls_to_end") (st := sCallsToEnd) (List.mem_of_getElem? (i := 27) rfl) (List.mem_of_getElem? (i := 27) rfl)) B (mkr_of (base := base) (mg := mg) hnd TB (x := "calls_to_end") (by decide)) g_least_of g_need_state g_apart_in
  have g_calls_to_sit := ok_calls_to_sit (P := P) (w := w) (base := base) (fndc_of KX G c (x := "calls_to_sit") (st := sCallsToSit) (List.mem_of_getElem? (i := 29) rfl) (List.mem_of_getElem? (i := 29) rfl)) B (mkr_of (base := base) (mg := mg) hnd TB (x := "calls_to_sit") (by decide)) g_least_of g_need_state g_need_person
  have g_calls_to_sit_all := ok_calls_to_sit_all (P := P) (w := w) (base := base) (fndc_of KX G c (x := "calls_to_sit_all") (st := sCallsToSitAll) (List.mem_of_getElem? (i := 30) rfl) (List.mem_of_getElem? (i := 30) rfl)) B (mkr_of (base := base) (mg := mg) hnd TB (x := "calls_to_sit_all") (by decide)) g_least_of g_need_state g_need_people
  have g_calls_to_alone := ok_calls_to_alone (P := P) (w := w) (base := base) (fndc_of KX G c (x := "calls_to_alone") (st := sCallsToAlone) (List.mem_of_getElem? (i := 31) rfl) (List.mem_of_getElem? (i := 31) rfl)) B (mkr_of (base := base) (mg := mg) hnd TB (x := "calls_to_alone") (by decide)) g_least_of g_need_state g_need_person
  have g_calls_to_end_with := ok_calls_to_end_with (P := P) (w := w) (base := base) (fndc_of KX G c (x := "calls_to_end_with") (st := sCallsToEndWith) (List.mem_of_getElem? (i := 32) rfl) (List.mem_of_getElem? (i := 32) rfl)) B (mkr_of (base := base) (mg := mg) hnd TB (x := "calls_to_end_with") (by decide)) g_least_of g_need_state g_need_person g_apart_in
  have g_calls_to_size := ok_calls_to_size (P := P) (w := w) (base := base) (fndc_of KX G c (x := "calls_to_size") (st := sCallsToSize) (List.mem_of_getElem? (i := 33) rfl) (List.mem_of_getElem? (i := 33) rfl)) B (mkr_of (base := base) (mg := mg) hnd TB (x := "calls_to_size") (by decide)) g_least_of g_need_state g_is_in
  exact ⟨B, mkr_of (base := base) (mg := mg) hnd TB (x := "law") (by decide), (fnd_of KX G c (x := "_law_told") (st := sLawTold) (List.mem_of_getElem? (i := 47) rfl) (List.mem_of_getElem? (i := 47) rfl)), DT, g_law_web, g_law_up, g_peaks, g_everybody, g_can_stand, g_can_sit, g_least_end, g_law_pick, g_law_sets, g_taller, g_fewest_standing, g_distance, g_left_with, g_reached, g_ends, g_nearest_ends, g_calls_to_end, g_calls_to_sit, g_calls_to_sit_all, g_calls_to_alone, g_calls_to_end_with, g_calls_to_size⟩
end
end Ts
open PySem PySem.W PySem.Calls PyProof.Rows
theorem PySem.Challenge.cw_tallsits_k46_whole_wishes_compared_holds : PySem.Challenge.rw_tallsits_k46_whole_wishes_compared.Holds := by
  w_on; o_law
  refine HandSHeadRun.head_any (r := OpenLaw.row PySem.Challenge.rw_tallsits_k46_whole_wishes_compared) (q := view (OpenLaw.row PySem.Challenge.rw_tallsits_k46_whole_wishes_compared).prog [64]) (H := Ts.hkX) (ob := Ts.obX) (M := 20000) (loose := Ts.looseL) (d := HandSHeadRun.topDef (OpenLaw.row PySem.Challenge.rw_tallsits_k46_whole_wishes_compared).prog 64) (kwd := []) Ts.obX_eq
    (by kernel_rfl) (fun s => by kernel_rfl) Ts.run (by kernel_rfl) (by kernel_rfl) (by kernel_rfl) (by rfl) (by first | assumption | decide +kernel) (by decide +kernel) ⟨rfl, rfl, rfl, rfl, rfl, by decide +kernel⟩ ?hw ?hc
  case hw => w_witness2
  case hc =>
    refine LamX.walk_ofTsE (l := PySem.Challenge.rw_tallsits_k46_whole_wishes_compared) (n := 63) (k := 20) (x := "_law_script") (CX := fun _ => L2.CX0) rfl (by decide) (by kernel_rfl) ⟨rfl, by decide, by decide⟩ ?F (fun _ _ _ _ _ z => z)
    intro w mg fa h Y G hmg0
    obtain ⟨K, KX, c⟩ := Y
    refine ⟨K, KX, ?_⟩
    obtain ⟨fd, F, hm, hcd⟩ := Ts.fnd_at KX G c (x := "law") (st := Ts.sLaw) (List.mem_of_getElem? (i := 48) rfl) (List.mem_of_getElem? (i := 48) rfl)
    have hfa : fa = He.ga K "law" := Value.ref.inj (Option.some.inj (hmg0.symm.trans hm))
    subst hfa
    refine ⟨fd, Ts.tfL.map (He.cT K), Ts.spLaw K (Ts.tabL K), fun p hp => ?_, fun p hp => ?_, fun p hp => ?_, fun s u => F.bindsA (ps := ["_law_script"]) (fun _ _ _ _ _ _ us hl => match us, hl with | [_], _ => rfl) s [u] rfl, fun H a ns _ _ hT hS => ⟨a, ns, rfl, hS, fun p hp => ?_, fun _ => rfl⟩, fun base hKb hNb TB => Ts.ok_law F hcd (Ts.law_g KX G c TB)⟩
    · obtain ⟨y, hy, rfl⟩ := List.mem_map.mp hp
      exact c.empty y hy
    · obtain ⟨y, hy, rfl⟩ := List.mem_map.mp hp
      exact c.out y hy
    · obtain ⟨y, hy, rfl⟩ := List.mem_map.mp hp
      exact codeHd_of_K KX (c.hd y hy)
    · obtain ⟨y, hy, rfl⟩ := List.mem_map.mp hp
      exact LamX.TabS.nil (hT _ (List.mem_map.mpr ⟨y, hy, rfl⟩))

