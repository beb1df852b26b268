import PyProof.Rows.All
import Wide.All
import OpenK.AllK
import Wide.FinOn
import HandS.ForMost
import HandS.Zip
import HandS.TupAny
import HandS.SortKw
import HandS.EndTab
import KE.GoesMore
import KE.GoesEnum
import KE.DatumOrd
import KE.SortKeyHeap
import HandS.TupLe
import HandS.Conv
import HandS.Star
import HandS.IsInst
import HandS.Style
import PySem.Challenge.RW_duelwebs_k34_whole_numbers_lowered
import HandS.SortRule
import KE.KNestM
set_option Elab.async false
set_option linter.all false
set_option maxRecDepth 100000
/-! The mathematics: webs, reach, parts, borders, deep pieces. No Python here. -/
namespace Dw
open Classical

abbrev Ties := List (Int × Int)
def Adj (ts : Ties) (p q : Int) : Prop := (p, q) ∈ ts ∨ (q, p) ∈ ts
theorem Adj.symm {ts : Ties} {p q : Int} (h : Adj ts p q) : Adj ts q p := h.elim .inr .inl

/-! ### sorted lists of ints -/
theorem ssort_ext : ∀ {l m : List Int}, l.Pairwise (· < ·) → m.Pairwise (· < ·) → (∀ x, x ∈ l ↔ x ∈ m) → l = m
  | [], [], _, _, _ => rfl
  | [], y :: m, _, _, h => absurd ((h y).mpr List.mem_cons_self) (by simp)
  | x :: l, [], _, _, h => absurd ((h x).mp List.mem_cons_self) (by simp)
  | x :: l, y :: m, hl, hm, h => by
    obtain ⟨l1, l2⟩ := List.pairwise_cons.mp hl
    obtain ⟨m1, m2⟩ := List.pairwise_cons.mp hm
    have e : x = y := by
      rcases List.mem_cons.mp ((h x).mp List.mem_cons_self) with e | e
      · exact e
      · rcases List.mem_cons.mp ((h y).mpr List.mem_cons_self) with e' | e'
        · exact e'.symm
        · have a := m1 x e
          have b := l1 y e'
          omega
    subst e
    rw [ssort_ext l2 m2 fun z => ?_]
    constructor
    · intro hz
      rcases List.mem_cons.mp ((h z).mp (List.mem_cons_of_mem _ hz)) with e | e
      · have a := l1 z hz
        omega
      · exact e
    · intro hz
      rcases List.mem_cons.mp ((h z).mpr (List.mem_cons_of_mem _ hz)) with e | e
      · have a := m1 z hz
        omega
      · exact e
theorem ssort_of {l : List Int} (h : l.Pairwise (· ≤ ·)) (hn : l.Nodup) : l.Pairwise (· < ·) := by
  have h2 := List.pairwise_and_iff.mpr ⟨h, hn⟩
  refine h2.imp ?_
  intro a b hab
  have := hab.1
  have := hab.2
  omega
theorem ssort_nodup {l : List Int} (h : l.Pairwise (· < ·)) : l.Nodup := h.imp fun hab => by omega
/-- a list without doubles within another one -/
theorem nodup_len : ∀ {l m : List Int}, l.Nodup → (∀ x ∈ l, x ∈ m) → l.length ≤ m.length
  | [], _, _, _ => Nat.zero_le _
  | x :: l, m, h, hs => by
    obtain ⟨h1, h2⟩ := List.nodup_cons.mp h
    have hx : x ∈ m := hs x List.mem_cons_self
    have q := nodup_len (l := l) (m := m.erase x) h2 fun y hy => by
      have hne : y ≠ x := fun e => h1 (e ▸ hy)
      exact (List.mem_erase_of_ne hne).mpr (hs y (List.mem_cons_of_mem _ hy))
    rw [List.length_erase_of_mem hx] at q
    have hp : 0 < m.length := List.length_pos_of_mem hx
    rw [List.length_cons]
    omega

/-! ### reach within a lot -/
inductive Reach (ts : Ties) (lot : List Int) (p : Int) : Int → Prop
  | refl : Reach ts lot p p
  | step {q r : Int} : Reach ts lot p q → Adj ts q r → r ∈ lot → Reach ts lot p r
theorem Reach.mem {ts : Ties} {lot : List Int} {p q : Int} (hp : p ∈ lot) (h : Reach ts lot p q) : q ∈ lot := by
  cases h with
  | refl => exact hp
  | step _ _ h => exact h
theorem Reach.mono {ts : Ties} {lot lot' : List Int} {p q : Int} (hs : ∀ x ∈ lot, x ∈ lot') (h : Reach ts lot p q) : Reach ts lot' p q := by
  induction h with
  | refl => exact .refl
  | step _ a hm ih => exact .step ih a (hs _ hm)
theorem Reach.within {ts : Ties} {lot : List Int} {p q : Int} {S : Int → Prop} (hp : S p) (hc : ∀ x y, S x → Adj ts x y → y ∈ lot → S y) (h : Reach ts lot p q) : S q := by
  induction h with
  | refl => exact hp
  | step _ a hm ih => exact hc _ _ ih a hm
noncomputable def comp (ts : Ties) (lot : List Int) (p : Int) : List Int := lot.filter fun y => decide (Reach ts lot p y)
theorem mem_comp {ts : Ties} {lot : List Int} {p y : Int} : y ∈ comp ts lot p ↔ y ∈ lot ∧ Reach ts lot p y := by
  unfold comp
  rw [List.mem_filter, decide_eq_true_eq]
theorem comp_self {ts : Ties} {lot : List Int} {p : Int} (h : p ∈ lot) : p ∈ comp ts lot p := mem_comp.mpr ⟨h, .refl⟩
theorem comp_sort {ts : Ties} {lot : List Int} {p : Int} (h : lot.Pairwise (· < ·)) : (comp ts lot p).Pairwise (· < ·) := h.filter _
/-- what is closed, holds the person and only reached ones, is the component -/
theorem comp_eq {ts : Ties} {lot found ns : List Int} {p : Int} (hl : lot.Pairwise (· < ·)) (hp : p ∈ lot) (hm : p ∈ found) (hs : ∀ x ∈ found, Reach ts lot p x)
    (hc : ∀ x ∈ found, ∀ y, Adj ts x y → y ∈ lot → y ∈ found) (hn : found.Nodup) (hq : ns.Perm found) (ho : ns.Pairwise (· ≤ ·)) : ns = comp ts lot p := by
  refine ssort_ext (ssort_of ho (hq.nodup_iff.mpr hn)) (comp_sort hl) fun x => ?_
  rw [hq.mem_iff, mem_comp]
  constructor
  · intro h
    exact ⟨(hs x h).mem hp, hs x h⟩
  · rintro ⟨_, h⟩
    exact h.within (S := fun y => y ∈ found) hm fun a b ha hab hb => hc a ha b hab hb

/-! ### neighbours -/
def nbr (ts : Ties) (p : Int) : List Int := (ts.filter fun t => decide (t.1 = p) || decide (t.2 = p)).map fun t => t.1 + t.2 - p
theorem mem_nbr {ts : Ties} {p q : Int} : q ∈ nbr ts p ↔ Adj ts p q := by
  unfold nbr Adj
  rw [List.mem_map]
  constructor
  · rintro ⟨⟨a, b⟩, h, e⟩
    rw [List.mem_filter] at h
    obtain ⟨h1, h2⟩ := h
    simp only [Bool.or_eq_true, decide_eq_true_eq] at h2 e
    rcases h2 with h2 | h2
    · subst h2
      have : q = b := by omega
      subst this
      exact .inl h1
    · subst h2
      have : q = a := by omega
      subst this
      exact .inr h1
  · rintro (h | h)
    · exact ⟨(p, q), List.mem_filter.mpr ⟨h, by simp⟩, by show p + q - p = q; omega⟩
    · exact ⟨(q, p), List.mem_filter.mpr ⟨h, by simp⟩, by show q + p - p = q; omega⟩
theorem nbr_len (ts : Ties) (p : Int) : (nbr ts p).length ≤ ts.length := by
  unfold nbr
  rw [List.length_map]
  exact List.length_filter_le _ _
theorem nbr_snoc (ts : Ties) (t : Int × Int) (p : Int) : nbr (ts ++ [t]) p = if t.1 = p ∨ t.2 = p then nbr ts p ++ [t.1 + t.2 - p] else nbr ts p := by
  unfold nbr
  rw [List.filter_append, List.map_append]
  by_cases h : t.1 = p ∨ t.2 = p
  · rw [if_pos h, List.filter_cons_of_pos (by simpa using h)]
    rfl
  · rw [if_neg h, List.filter_cons_of_neg (by simpa using h)]
    simp

/-! ### the search of hanging -/
structure DfsI (ts : Ties) (lot : List Int) (p : Int) (found edge : List Int) : Prop where
  nd : found.Nodup
  mem : p ∈ found
  sub : ∀ x ∈ found, Reach ts lot p x
  esub : ∀ x ∈ edge, x ∈ found
  cl : ∀ x ∈ found, x ∉ edge → ∀ y, Adj ts x y → y ∈ lot → y ∈ found
structure DfsJ (ts : Ties) (lot : List Int) (p here : Int) (done found edge : List Int) : Prop where
  nd : found.Nodup
  mem : p ∈ found
  sub : ∀ x ∈ found, Reach ts lot p x
  esub : ∀ x ∈ edge, x ∈ found
  hin : here ∈ found
  cl : ∀ x ∈ found, x ∉ edge → x ≠ here → ∀ y, Adj ts x y → y ∈ lot → y ∈ found
  dn : ∀ y ∈ done, y ∈ lot → y ∈ found
theorem DfsI.start {ts : Ties} {lot : List Int} {p : Int} : DfsI ts lot p [p] [p] :=
  ⟨by simp, by simp, fun x h => by simp at h; subst h; exact .refl, fun x h => h, fun x h n => absurd h n⟩
theorem DfsI.pop {ts : Ties} {lot : List Int} {p here : Int} {found e : List Int} (h : DfsI ts lot p found (e ++ [here])) : DfsJ ts lot p here [] found e :=
  ⟨h.nd, h.mem, h.sub, fun x hx => h.esub x (List.mem_append_left _ hx), h.esub here (by simp), fun x hx hn hne => h.cl x hx (by simp [hn, hne]), by simp⟩
theorem DfsJ.add {ts : Ties} {lot : List Int} {p here y : Int} {done found e : List Int} (h : DfsJ ts lot p here done found e) (ha : Adj ts here y) (hl : y ∈ lot) (hn : y ∉ found) :
    DfsJ ts lot p here (done ++ [y]) (found ++ [y]) (e ++ [y]) := by
  refine ⟨?_, List.mem_append_left _ h.mem, fun x hx => ?_, fun x hx => ?_, List.mem_append_left _ h.hin, fun x hx hne hh z hz hzl => ?_, fun z hz hzl => ?_⟩
  · rw [List.nodup_append]
    refine ⟨h.nd, by simp, fun a ha' b hb e => ?_⟩
    simp at hb
    subst hb
    subst e
    exact hn ha'
  · rcases List.mem_append.mp hx with q | q
    · exact h.sub x q
    · simp at q
      subst q
      exact (h.sub here h.hin).step ha hl
  · rcases List.mem_append.mp hx with q | q
    · exact List.mem_append_left _ (h.esub x q)
    · exact List.mem_append_right _ q
  · rcases List.mem_append.mp hx with q | q
    · exact List.mem_append_left _ (h.cl x q (fun c => hne (List.mem_append_left _ c)) hh z hz hzl)
    · exact absurd (List.mem_append_right _ q) hne
  · rcases List.mem_append.mp hz with q | q
    · exact List.mem_append_left _ (h.dn z q hzl)
    · exact List.mem_append_right _ q
theorem DfsJ.skip {ts : Ties} {lot : List Int} {p here y : Int} {done found e : List Int} (h : DfsJ ts lot p here done found e) (hn : y ∈ lot → y ∈ found) : DfsJ ts lot p here (done ++ [y]) found e :=
  ⟨h.nd, h.mem, h.sub, h.esub, h.hin, h.cl, fun z hz hzl => by
    rcases List.mem_append.mp hz with q | q
    · exact h.dn z q hzl
    · simp at q
      subst q
      exact hn hzl⟩
theorem DfsJ.fin {ts : Ties} {lot : List Int} {p here : Int} {done found e : List Int} (h : DfsJ ts lot p here done found e) (hd : ∀ y, Adj ts here y → y ∈ done) : DfsI ts lot p found e :=
  ⟨h.nd, h.mem, h.sub, h.esub, fun x hx hn y hy hyl => by
    by_cases e : x = here
    · subst e
      exact h.dn y (hd y hy) hyl
    · exact h.cl x hx hn e y hy hyl⟩
theorem DfsJ.len {ts : Ties} {lot : List Int} {p here : Int} {done found e : List Int} (h : DfsJ ts lot p here done found e) (hp : p ∈ lot) : found.length ≤ lot.length := nodup_len h.nd fun x hx => (h.sub x hx).mem hp
theorem DfsI.len {ts : Ties} {lot : List Int} {p : Int} {found e : List Int} (h : DfsI ts lot p found e) (hp : p ∈ lot) : found.length ≤ lot.length := nodup_len h.nd fun x hx => (h.sub x hx).mem hp
theorem DfsI.done {ts : Ties} {lot : List Int} {p : Int} {found ns : List Int} (h : DfsI ts lot p found []) (hl : lot.Pairwise (· < ·)) (hp : p ∈ lot) (hq : ns.Perm found) (ho : ns.Pairwise (· ≤ ·)) : ns = comp ts lot p :=
  comp_eq hl hp h.mem h.sub (fun x hx y hy hyl => h.cl x hx (by simp) y hy hyl) h.nd hq ho

/-! ### the law's own search: passes over the ties -/
/-- some is closed under the ties of the lot -/
def Closed (ts : Ties) (lot some : List Int) : Prop := ∀ t ∈ ts, t.1 ∈ lot → t.2 ∈ lot → (t.1 ∈ some ↔ t.2 ∈ some)
structure PassI (ts : Ties) (lot : List Int) (p : Int) (some : List Int) : Prop where
  nd : some.Nodup
  mem : p ∈ some
  sub : ∀ x ∈ some, Reach ts lot p x
/-- behind the first ties of a pass that began with s0 -/
def PassJ (ts done : Ties) (lot : List Int) (p : Int) (s0 some : List Int) : Prop :=
  PassI ts lot p some ∧ (Closed ts lot s0 → some = s0) ∧ ((some = s0 ∧ Closed done lot s0) ∨ s0.length < some.length)
theorem PassI.start {ts : Ties} {lot : List Int} {p : Int} : PassI ts lot p [p] := ⟨by simp, by simp, fun x h => by simp at h; subst h; exact .refl⟩
theorem PassJ.start {ts : Ties} {lot : List Int} {p : Int} {s : List Int} (h : PassI ts lot p s) : PassJ ts [] lot p s s := ⟨h, fun _ => rfl, .inl ⟨rfl, fun t ht => by simp at ht⟩⟩
theorem PassI.add {ts : Ties} {lot : List Int} {p x y : Int} {s : List Int} (h : PassI ts lot p s) (hx : x ∈ s) (ha : Adj ts x y) (hl : y ∈ lot) (hn : y ∉ s) : PassI ts lot p (s ++ [y]) := by
  refine ⟨?_, List.mem_append_left _ h.mem, fun z hz => ?_⟩
  · rw [List.nodup_append]
    refine ⟨h.nd, by simp, fun a ha' b hb e => ?_⟩
    simp at hb
    subst hb
    subst e
    exact hn ha'
  · rcases List.mem_append.mp hz with q | q
    · exact h.sub z q
    · simp at q
      subst q
      exact (h.sub x hx).step ha hl
/-- the other end of a tie that leads out -/
def otherEnd (t : Int × Int) (s : List Int) : Int := if t.1 ∈ s then t.2 else t.1
theorem PassJ.add {ts done : Ties} {lot : List Int} {p : Int} {s0 s : List Int} {t : Int × Int} (h : PassJ ts done lot p s0 s) (ht : t ∈ ts) (h1 : t.1 ∈ lot) (h2 : t.2 ∈ lot) (hn : ¬ (t.1 ∈ s ↔ t.2 ∈ s)) : PassJ ts (done ++ [t]) lot p s0 (s ++ [otherEnd t s]) := by
  have k : PassI ts lot p (s ++ [otherEnd t s]) := by
    unfold otherEnd
    by_cases q : t.1 ∈ s
    · rw [if_pos q]
      exact h.1.add q (.inl ht) h2 fun z => hn ⟨fun _ => z, fun _ => q⟩
    · rw [if_neg q]
      have q2 : t.2 ∈ s := by
        by_cases z : t.2 ∈ s
        · exact z
        · exact absurd ⟨fun a => absurd a q, fun a => absurd a z⟩ hn
      exact h.1.add q2 (.inr ht) h1 q
  refine ⟨k, fun c => ?_, .inr ?_⟩
  · have e := h.2.1 c
    subst e
    exact absurd (c t ht h1 h2) hn
  · rw [List.length_append]
    have : ([otherEnd t s] : List Int).length = 1 := rfl
    rcases h.2.2 with ⟨e, _⟩ | e
    · subst e
      omega
    · omega
theorem PassJ.skip {ts done : Ties} {lot : List Int} {p : Int} {s0 s : List Int} {t : Int × Int} (h : PassJ ts done lot p s0 s) (hn : t.1 ∈ lot → t.2 ∈ lot → (t.1 ∈ s ↔ t.2 ∈ s)) : PassJ ts (done ++ [t]) lot p s0 s := by
  refine ⟨h.1, h.2.1, ?_⟩
  rcases h.2.2 with ⟨e, c⟩ | e
  · subst e
    refine .inl ⟨rfl, fun u hu => ?_⟩
    rcases List.mem_append.mp hu with q | q
    · exact c u q
    · simp at q
      subst q
      exact hn
  · exact .inr e
/-- behind k passes: closed, or longer than k -/
def PassK (ts : Ties) (lot : List Int) (p : Int) (k : Nat) (some : List Int) : Prop := PassI ts lot p some ∧ (Closed ts lot some ∨ k < some.length)
theorem PassK.start {ts : Ties} {lot : List Int} {p : Int} : PassK ts lot p 0 [p] := ⟨.start, .inr (by simp)⟩
theorem PassJ.fin {ts : Ties} {lot : List Int} {p : Int} {k : Nat} {s0 s : List Int} (h0 : PassK ts lot p k s0) (h : PassJ ts ts lot p s0 s) : PassK ts lot p (k + 1) s := by
  refine ⟨h.1, ?_⟩
  rcases h.2.2 with ⟨e, c⟩ | e
  · subst e
    exact .inl c
  · rcases h0.2 with c | c
    · have e2 := h.2.1 c
      subst e2
      exact absurd e (Nat.lt_irrefl _)
    · exact .inr (by omega)
/-- all of what is reached lies in left, so as many passes as left is long are enough -/
theorem PassK.done {ts : Ties} {lot left ns s : List Int} {p : Int} (h : PassK ts lot p left.length s) (hl : lot.Pairwise (· < ·)) (hp : p ∈ lot) (hs : ∀ x, Reach ts lot p x → x ∈ left) (hq : ns.Perm s) (ho : ns.Pairwise (· ≤ ·)) : ns = comp ts lot p := by
  have c : Closed ts lot s := by
    rcases h.2 with c | c
    · exact c
    · have := nodup_len h.1.nd fun x hx => hs x (h.1.sub x hx)
      omega
  refine comp_eq hl hp h.1.mem h.1.sub (fun x hx y hy hyl => ?_) h.1.nd hq ho
  have hxl : x ∈ lot := (h.1.sub x hx).mem hp
  rcases hy with q | q
  · exact (c _ q hxl hyl).mp hx
  · exact (c _ q hyl hxl).mpr hx

/-! ### parts -/
noncomputable def partsF (ts : Ties) : Nat → List Int → List (List Int)
  | 0, _ => []
  | _ + 1, [] => []
  | n + 1, x :: r => comp ts (x :: r) x :: partsF ts n ((x :: r).filter fun y => decide (y ∉ comp ts (x :: r) x))
noncomputable def parts (ts : Ties) (lot : List Int) : List (List Int) := partsF ts lot.length lot
noncomputable def without (ts : Ties) (lot : List Int) (x : Int) : List Int := lot.filter fun y => decide (y ∉ comp ts lot x)
theorem without_len {ts : Ties} {x : Int} {r : List Int} : (without ts (x :: r) x).length ≤ r.length := by
  unfold without
  rw [List.filter_cons_of_neg (by simpa using comp_self (ts := ts) (List.mem_cons_self (a := x) (l := r)))]
  exact List.length_filter_le _ _
theorem partsF_fuel (ts : Ties) : ∀ (n m : Nat) (lot : List Int), lot.length ≤ n → lot.length ≤ m → partsF ts n lot = partsF ts m lot
  | 0, 0, _, _, _ => rfl
  | 0, m + 1, [], _, _ => rfl
  | n + 1, 0, [], _, _ => rfl
  | n + 1, m + 1, [], _, _ => rfl
  | 0, _, _ :: _, h, _ => absurd h (by simp)
  | _ + 1, 0, _ :: _, _, h => absurd h (by simp)
  | n + 1, m + 1, x :: r, h1, h2 => by
    have q := without_len (ts := ts) (x := x) (r := r)
    unfold without at q
    rw [List.length_cons] at h1 h2
    show comp ts (x :: r) x :: partsF ts n _ = comp ts (x :: r) x :: partsF ts m _
    rw [partsF_fuel ts n m _ (by omega) (by omega)]
theorem parts_nil (ts : Ties) : parts ts [] = [] := rfl
theorem parts_cons (ts : Ties) (x : Int) (r : List Int) : parts ts (x :: r) = comp ts (x :: r) x :: parts ts (without ts (x :: r) x) := by
  have q := without_len (ts := ts) (x := x) (r := r)
  unfold parts
  rw [List.length_cons]
  show comp ts (x :: r) x :: partsF ts r.length (without ts (x :: r) x) = _
  rw [partsF_fuel ts r.length _ _ q (Nat.le_refl _)]
/-- a part of a lot: not empty, within, its own component -/
theorem parts_mem {ts : Ties} : ∀ (n : Nat) {lot : List Int}, lot.length ≤ n → lot.Pairwise (· < ·) → ∀ c ∈ parts ts lot, ∃ x, x ∈ c ∧ c.Pairwise (· < ·) ∧ (∀ y ∈ c, y ∈ lot) ∧ (∀ a ∈ c, ∀ b, Adj ts a b → b ∈ lot → b ∈ c)
  | _, [], _, _, c, hc => by simp [parts_nil] at hc
  | 0, _ :: _, h, _, _, _ => absurd h (by simp)
  | n + 1, x :: r, h, hl, c, hc => by
    rw [parts_cons] at hc
    rcases List.mem_cons.mp hc with e | hc
    · subst e
      exact ⟨x, comp_self List.mem_cons_self, comp_sort hl, fun y hy => (mem_comp.mp hy).1, fun a ha b hab hb => mem_comp.mpr ⟨hb, (mem_comp.mp ha).2.step hab hb⟩⟩
    · have q := without_len (ts := ts) (x := x) (r := r)
      rw [List.length_cons] at h
      obtain ⟨z, h1, h2, h3, h4⟩ := parts_mem n (lot := without ts (x :: r) x) (by omega) (hl.filter _) c hc
      have up : ∀ y ∈ without ts (x :: r) x, y ∈ x :: r := fun y hy => (List.mem_filter.mp hy).1
      refine ⟨z, h1, h2, fun y hy => up y (h3 y hy), fun a ha b hab hb => h4 a ha b hab ?_⟩
      refine List.mem_filter.mpr ⟨hb, ?_⟩
      rw [decide_eq_true_eq]
      intro hbc
      have ha2 := List.mem_filter.mp (h3 a ha)
      have ha3 := ha2.2
      rw [decide_eq_true_eq] at ha3
      exact ha3 (mem_comp.mpr ⟨ha2.1, (mem_comp.mp hbc).2.step hab.symm ha2.1⟩)
/-- what is left of a lot behind some parts: nothing of it has a tie to the rest of the lot -/
def LeftOf (ts : Ties) (lot left : List Int) : Prop := left.Pairwise (· < ·) ∧ (∀ a ∈ left, a ∈ lot) ∧ ∀ a ∈ left, ∀ b, Adj ts a b → b ∈ lot → b ∈ left
theorem LeftOf.start {ts : Ties} {lot : List Int} (h : lot.Pairwise (· < ·)) : LeftOf ts lot lot := ⟨h, fun _ h => h, fun _ _ _ _ h => h⟩
theorem LeftOf.next {ts : Ties} {lot : List Int} {left : List Int} {x : Int} (h : LeftOf ts lot left) : LeftOf ts lot (without ts left x) := by
  refine ⟨h.1.filter _, fun a ha => h.2.1 a (List.mem_filter.mp ha).1, fun a ha b hab hb => ?_⟩
  obtain ⟨a1, a2⟩ := List.mem_filter.mp ha
  rw [decide_eq_true_eq] at a2
  have b1 := h.2.2 a a1 b hab hb
  refine List.mem_filter.mpr ⟨b1, ?_⟩
  rw [decide_eq_true_eq]
  intro hc
  exact a2 (mem_comp.mpr ⟨a1, (mem_comp.mp hc).2.step hab.symm a1⟩)
theorem LeftOf.reach {ts : Ties} {lot left : List Int} {x y : Int} (h : LeftOf ts lot left) (hx : x ∈ left) (r : Reach ts lot x y) : y ∈ left := r.within (S := fun z => z ∈ left) hx fun a b ha hab hb => h.2.2 a ha b hab hb
theorem LeftOf.comp {ts : Ties} {lot left : List Int} {x : Int} (h : LeftOf ts lot left) (hl : lot.Pairwise (· < ·)) (hx : x ∈ left) : comp ts lot x = comp ts left x := by
  refine ssort_ext (comp_sort hl) (comp_sort h.1) fun y => ?_
  rw [mem_comp, mem_comp]
  constructor
  · rintro ⟨h1, r⟩
    refine ⟨h.reach hx r, ?_⟩
    clear h1
    induction r with
    | refl => exact .refl
    | step r a hm ih => exact .step ih a (h.2.2 _ (h.reach hx r) _ a hm)
  · rintro ⟨h1, r⟩
    exact ⟨h.2.1 y h1, r.mono h.2.1⟩

/-! ### borders, numbers, deep pieces -/
noncomputable def border (ts : Ties) (part lot : List Int) : List Int := lot.filter fun one => decide (∃ other ∈ part, Adj ts one other)
theorem mem_border {ts : Ties} {part lot : List Int} {x : Int} : x ∈ border ts part lot ↔ x ∈ lot ∧ ∃ y ∈ part, Adj ts x y := by
  unfold border
  rw [List.mem_filter, decide_eq_true_eq]
def minL : List Int → Int
  | [] => 0
  | [a] => a
  | a :: b :: r => min a (minL (b :: r))
theorem minL_spec : ∀ {l : List Int}, l ≠ [] → minL l ∈ l ∧ ∀ y ∈ l, minL l ≤ y
  | [], h => absurd rfl h
  | [a], _ => ⟨by simp [minL], fun y hy => by simp at hy; subst hy; simp [minL]⟩
  | a :: b :: r, _ => by
    obtain ⟨h1, h2⟩ := minL_spec (l := b :: r) (by simp)
    show min a (minL (b :: r)) ∈ a :: b :: r ∧ ∀ y ∈ a :: b :: r, min a (minL (b :: r)) ≤ y
    constructor
    · by_cases h : a ≤ minL (b :: r)
      · rw [Int.min_eq_left h]
        exact List.mem_cons_self
      · rw [Int.min_eq_right (by omega)]
        exact List.mem_cons_of_mem _ h1
    · intro y hy
      rcases List.mem_cons.mp hy with e | e
      · subst e
        exact Int.min_le_left _ _
      · have := h2 y e
        exact Int.le_trans (Int.min_le_right _ _) this
theorem minL_uniq {l : List Int} {m : Int} (h : m ∈ l) (h2 : ∀ y ∈ l, m ≤ y) : m = minL l := by
  have hne : l ≠ [] := fun e => by subst e; cases h
  obtain ⟨a, b⟩ := minL_spec hne
  have := h2 _ a
  have := b _ h
  omega
theorem minL_lt {l m : List Int} (hl : l ≠ []) (hm : m ≠ []) : minL l < minL m ↔ ∃ x ∈ l, ∀ y ∈ m, x < y := by
  obtain ⟨a, b⟩ := minL_spec hl
  obtain ⟨c, d⟩ := minL_spec hm
  constructor
  · intro h
    exact ⟨_, a, fun y hy => by have := d y hy; omega⟩
  · rintro ⟨x, hx, h⟩
    have := b x hx
    have := h _ c
    omega
def num (nums : List Int) (p : Int) : Int := nums.getD p.toNat 0
noncomputable def deep1 (nums : List Int) (ts : Ties) (lot piece : List Int) : Bool := decide (minL (piece.map (num nums)) < minL ((border ts piece lot).map (num nums)))
def everyone (n : Nat) : List Int := (List.range n).map fun (k : Nat) => (k : Int)
def rest (n : Nat) (lot : List Int) : List Int := (everyone n).filter fun x => decide (x ∉ lot)
noncomputable def deep (nums : List Int) (ts : Ties) (n : Nat) (lot : List Int) : List (List Int) := (parts ts (rest n lot)).filter (deep1 nums ts lot)
theorem everyone_mem {n : Nat} {x : Int} : x ∈ everyone n ↔ 0 ≤ x ∧ x < n := by
  unfold everyone
  rw [List.mem_map]
  constructor
  · rintro ⟨k, hk, e⟩
    have := List.mem_range.mp hk
    omega
  · rintro ⟨h1, h2⟩
    exact ⟨x.toNat, List.mem_range.mpr (by omega), by omega⟩
theorem everyone_len (n : Nat) : (everyone n).length = n := by
  unfold everyone
  rw [List.length_map, List.length_range]
theorem everyone_sort (n : Nat) : (everyone n).Pairwise (· < ·) := by
  unfold everyone
  rw [List.pairwise_map]
  exact List.pairwise_lt_range.imp fun h => by omega
theorem everyone_get {n i : Nat} (h : i < n) : (everyone n)[i]? = some (i : Int) := by
  unfold everyone
  rw [List.getElem?_map, List.getElem?_range h]
  rfl
theorem rest_mem {n : Nat} {lot : List Int} {x : Int} : x ∈ rest n lot ↔ (0 ≤ x ∧ x < n) ∧ x ∉ lot := by
  unfold rest
  rw [List.mem_filter, everyone_mem, decide_eq_true_eq]
theorem rest_sort (n : Nat) (lot : List Int) : (rest n lot).Pairwise (· < ·) := (everyone_sort n).filter _
theorem rest_len (n : Nat) (lot : List Int) : (rest n lot).length ≤ n := by
  have h := List.length_filter_le (fun x => decide (x ∉ lot)) (everyone n)
  rw [everyone_len] at h
  exact h

/-- a web: numbers, ties -/
structure Web (nums : List Int) (ts : Ties) : Prop where
  pos : 1 ≤ nums.length
  le : nums.length ≤ 7
  num : ∀ x ∈ nums, -1000 ≤ x ∧ x ≤ 1000
  tie : ∀ t ∈ ts, 0 ≤ t.1 ∧ t.1 < t.2 ∧ t.2 < nums.length
  asc : ts.Pairwise fun s t => s.1 < t.1 ∨ (s.1 = t.1 ∧ s.2 < t.2)
  con : ∀ x : Int, 0 ≤ x → x < nums.length → Reach ts (everyone nums.length) 0 x
structure Lot (n : Nat) (lot : List Int) : Prop where
  ne : lot ≠ []
  asc : lot.Pairwise (· < ·)
  mem : ∀ x ∈ lot, 0 ≤ x ∧ x < n
theorem Lot.len {n : Nat} {lot : List Int} (h : Lot n lot) : lot.length ≤ n := by
  have q := nodup_len (ssort_nodup h.asc) (m := everyone n) fun x hx => everyone_mem.mpr (h.mem x hx)
  rw [everyone_len] at q
  exact q
theorem adj_lt {nums : List Int} {ts : Ties} (W : Web nums ts) {x y : Int} (h : Adj ts x y) : (0 ≤ x ∧ x < nums.length) ∧ 0 ≤ y ∧ y < nums.length := by
  rcases h with h | h
  · have := W.tie _ h
    have h1 : (x, y).1 = x := rfl
    have h2 : (x, y).2 = y := rfl
    omega
  · have := W.tie _ h
    have h1 : (y, x).1 = y := rfl
    have h2 : (y, x).2 = x := rfl
    omega
/-- the web hangs together -/
theorem Web.joined {nums : List Int} {ts : Ties} (W : Web nums ts) : comp ts (everyone nums.length) 0 = everyone nums.length := by
  unfold comp
  rw [List.filter_eq_self]
  intro x hx
  obtain ⟨h1, h2⟩ := everyone_mem.mp hx
  rw [decide_eq_true_eq]
  exact W.con x h1 h2
/-- each piece has somebody of the lot for a neighbour -/
theorem border_ne {nums : List Int} {ts : Ties} (W : Web nums ts) {lot piece : List Int} (L : Lot nums.length lot) (h : piece ∈ parts ts (rest nums.length lot)) : border ts piece lot ≠ [] := by
  intro e
  obtain ⟨x, hx, _, hw, hc⟩ := parts_mem _ (Nat.le_refl _) (rest_sort _ _) piece h
  obtain ⟨l, hl⟩ : ∃ l, l ∈ lot := List.exists_mem_of_ne_nil _ L.ne
  have nob : ∀ a ∈ piece, ∀ b, Adj ts a b → b ∈ piece := fun a ha b hab => by
    by_cases q : b ∈ lot
    · have z : b ∈ border ts piece lot := mem_border.mpr ⟨q, a, ha, hab.symm⟩
      rw [e] at z
      cases z
    · exact hc a ha b hab (rest_mem.mpr ⟨(adj_lt W hab).2, q⟩)
  have h0 : (0 : Int) ∈ piece := by
    have back : ∀ y, Reach ts (everyone nums.length) 0 y → y ∈ piece → (0 : Int) ∈ piece := fun y r => by
      induction r with
      | refl => exact fun h => h
      | step r a hm ih => exact fun hy => ih (nob _ hy _ a.symm)
    obtain ⟨a1, a2⟩ := (rest_mem.mp (hw x hx)).1
    exact back x (W.con x a1 a2) hx
  have fw : l ∈ piece := by
    obtain ⟨a1, a2⟩ := L.mem l hl
    exact (W.con l a1 a2).within (S := fun z => z ∈ piece) h0 fun a b ha hab _ => nob a ha b hab
  exact (rest_mem.mp (hw l fw)).2 hl
theorem part_ne {ts : Ties} {lot : List Int} (hl : lot.Pairwise (· < ·)) {c : List Int} (h : c ∈ parts ts lot) : c ≠ [] := by
  obtain ⟨x, hx, _⟩ := parts_mem _ (Nat.le_refl _) hl c h
  exact fun e => by subst e; cases hx

/-! ### numbers lowered -/
noncomputable def lower (nums : List Int) (some : List Int) : List Int := (List.range nums.length).map fun (i : Nat) => if (i : Int) ∈ some then minL nums else num nums i
theorem lower_len (nums some : List Int) : (lower nums some).length = nums.length := by
  unfold lower
  rw [List.length_map, List.length_range]
theorem num_get {nums : List Int} {x : Int} (h1 : 0 ≤ x) (h2 : x < nums.length) : nums[x.toNat]? = some (num nums x) := by
  unfold num
  rw [List.getD_eq_getElem?_getD, List.getElem?_eq_getElem (by omega)]
  rfl
theorem num_mem {nums : List Int} {x : Int} (h1 : 0 ≤ x) (h2 : x < nums.length) : num nums x ∈ nums := List.mem_of_getElem? (num_get h1 h2)
theorem lower_num {nums some : List Int} {x : Int} (h1 : 0 ≤ x) (h2 : x < nums.length) : num (lower nums some) x = if x ∈ some then minL nums else num nums x := by
  have e : (x.toNat : Int) = x := by omega
  unfold lower
  conv => lhs; unfold num
  rw [List.getD_eq_getElem?_getD, List.getElem?_map, List.getElem?_range (by omega)]
  show (if (x.toNat : Int) ∈ some then minL nums else num nums (x.toNat : Int)) = _
  rw [e]
theorem lower_web {nums : List Int} {ts : Ties} (W : Web nums ts) (some : List Int) : Web (lower nums some) ts := by
  have hl := lower_len nums some
  have hne : nums ≠ [] := fun e => by
    have := W.pos
    subst e
    simp at this
  refine ⟨by rw [hl]; exact W.pos, by rw [hl]; exact W.le, fun x hx => ?_, by rw [hl]; exact W.tie, W.asc, by rw [hl]; exact W.con⟩
  unfold lower at hx
  obtain ⟨i, hi, e⟩ := List.mem_map.mp hx
  have hi' := List.mem_range.mp hi
  subst e
  show -1000 ≤ (if (i : Int) ∈ some then minL nums else num nums i) ∧ (if (i : Int) ∈ some then minL nums else num nums i) ≤ 1000
  split
  · exact W.num _ (minL_spec hne).1
  · exact W.num _ (num_mem (by omega) (by omega))
/-- does a lot meet the border of a piece -/
noncomputable def hit (ts : Ties) (lot some piece : List Int) : Bool := decide (∃ one ∈ border ts piece lot, one ∈ some)
theorem deep1_lower {nums : List Int} {ts : Ties} (W : Web nums ts) {lot some piece : List Int} (L : Lot nums.length lot) (hs : ∀ x ∈ some, x ∈ lot) (h : piece ∈ parts ts (rest nums.length lot)) :
    deep1 (lower nums some) ts lot piece = (deep1 nums ts lot piece && !hit ts lot some piece) := by
  have hb := border_ne W L h
  have hp := part_ne (rest_sort _ _) h
  obtain ⟨_, _, _, hw, _⟩ := parts_mem _ (Nat.le_refl _) (rest_sort _ _) piece h
  have hne : nums ≠ [] := fun e => by
    have := W.pos
    subst e
    simp at this
  have e1 : piece.map (num (lower nums some)) = piece.map (num nums) := List.map_congr_left fun y hy => by
    obtain ⟨⟨a1, a2⟩, a3⟩ := rest_mem.mp (hw y hy)
    rw [lower_num a1 a2, if_neg fun z => a3 (hs y z)]
  have nb : ∀ y ∈ border ts piece lot, num (lower nums some) y = if y ∈ some then minL nums else num nums y := fun y hy => by
    obtain ⟨a1, a2⟩ := L.mem y (mem_border.mp hy).1
    exact lower_num a1 a2
  have m1 : ∀ f : Int → Int, piece.map f ≠ [] := fun f z => hp (List.map_eq_nil_iff.mp z)
  have m2 : ∀ f : Int → Int, (border ts piece lot).map f ≠ [] := fun f z => hb (List.map_eq_nil_iff.mp z)
  unfold deep1
  rw [e1]
  by_cases q : hit ts lot some piece = true
  · rw [q]
    unfold hit at q
    rw [decide_eq_true_eq] at q
    obtain ⟨y, hy, hys⟩ := q
    have : ¬ minL (piece.map (num nums)) < minL ((border ts piece lot).map (num (lower nums some))) := by
      rw [minL_lt (m1 _) (m2 _)]
      rintro ⟨x, hx, hlt⟩
      obtain ⟨z, hz, ez⟩ := List.mem_map.mp hx
      obtain ⟨⟨a1, a2⟩, _⟩ := rest_mem.mp (hw z hz)
      have b1 := hlt _ (List.mem_map.mpr ⟨y, hy, rfl⟩)
      rw [nb y hy, if_pos hys] at b1
      have b2 := (minL_spec hne).2 _ (num_mem a1 a2)
      omega
    rw [decide_eq_false this]
    simp
  · have q' : hit ts lot some piece = false := by
      cases z : hit ts lot some piece with
      | true => exact absurd z q
      | false => rfl
    rw [q']
    unfold hit at q'
    rw [decide_eq_false_iff_not] at q'
    have e2 : (border ts piece lot).map (num (lower nums some)) = (border ts piece lot).map (num nums) := List.map_congr_left fun y hy => by
      rw [nb y hy, if_neg fun z => q' ⟨y, hy, z⟩]
    rw [e2]
    simp
theorem deep_lower {nums : List Int} {ts : Ties} (W : Web nums ts) {lot some : List Int} (L : Lot nums.length lot) (hs : ∀ x ∈ some, x ∈ lot) :
    deep (lower nums some) ts nums.length lot = [] ↔ ∀ piece ∈ deep nums ts nums.length lot, hit ts lot some piece = true := by
  unfold deep
  rw [List.filter_eq_nil_iff]
  constructor
  · intro h piece hp
    obtain ⟨a1, a2⟩ := List.mem_filter.mp hp
    have q := h piece a1
    rw [deep1_lower W L hs a1, a2] at q
    simpa using q
  · intro h piece hp
    rw [deep1_lower W L hs hp]
    intro q
    simp only [Bool.and_eq_true, Bool.not_eq_true'] at q
    have := h piece (List.mem_filter.mpr ⟨hp, q.1⟩)
    rw [q.2] at this
    cases this
/-! ### the least lot that meets all, among all lots in an order -/
noncomputable def good (nums : List Int) (ts : Ties) (lot some : List Int) : Bool := decide ((∀ x ∈ some, x ∈ lot) ∧ ∀ piece ∈ deep nums ts nums.length lot, hit ts lot some piece = true)
noncomputable def leastLow (lots : List (List Int)) (nums : List Int) (ts : Ties) (lot : List Int) : List Int := if deep nums ts nums.length lot = [] then [] else (lots.find? (good nums ts lot)).getD []
noncomputable def lawGood (nums : List Int) (ts : Ties) (lot some : List Int) : Bool := decide ((∀ x ∈ some, x ∈ lot) ∧ deep (lower nums some) ts nums.length lot = [])
theorem lawGood_eq {nums : List Int} {ts : Ties} (W : Web nums ts) {lot : List Int} (L : Lot nums.length lot) (some : List Int) : lawGood nums ts lot some = good nums ts lot some := by
  unfold lawGood good
  by_cases h : ∀ x ∈ some, x ∈ lot
  · exact decide_eq_decide.mpr (and_congr_right fun _ => deep_lower W L h)
  · rw [decide_eq_false fun z => h z.1, decide_eq_false fun z => h z.1]
theorem good_lot {nums : List Int} {ts : Ties} (W : Web nums ts) {lot : List Int} (L : Lot nums.length lot) : good nums ts lot lot = true := by
  unfold good
  rw [decide_eq_true_eq]
  refine ⟨fun _ h => h, fun piece hp => ?_⟩
  obtain ⟨a1, _⟩ := List.mem_filter.mp hp
  obtain ⟨y, hy⟩ := List.exists_mem_of_ne_nil _ (border_ne W L a1)
  unfold hit
  rw [decide_eq_true_eq]
  exact ⟨y, hy, (mem_border.mp hy).1⟩
/-- the law's list of the good lots begins with the least one -/
theorem good_head {nums : List Int} {ts : Ties} (W : Web nums ts) {lot : List Int} (L : Lot nums.length lot) {lots : List (List Int)} (hl : lot ∈ lots) :
    ∃ r, (([] :: lots).filter (lawGood nums ts lot)) = leastLow lots nums ts lot :: r := by
  have e : (lawGood nums ts lot) = good nums ts lot := funext fun s => lawGood_eq W L s
  rw [e]
  unfold leastLow
  by_cases h : deep nums ts nums.length lot = []
  · have g : good nums ts lot [] = true := by
      unfold good
      rw [decide_eq_true_eq]
      refine ⟨fun x hx => (by cases hx), fun p hp => ?_⟩
      rw [h] at hp
      cases hp
    rw [if_pos h, List.filter_cons_of_pos g]
    exact ⟨_, rfl⟩
  · have g : ¬ good nums ts lot [] = true := by
      unfold good
      rw [decide_eq_true_eq]
      rintro ⟨_, q⟩
      obtain ⟨p, hp⟩ := List.exists_mem_of_ne_nil _ h
      have z := q p hp
      unfold hit at z
      rw [decide_eq_true_eq] at z
      obtain ⟨_, _, z⟩ := z
      cases z
    rw [if_neg h, List.filter_cons_of_neg g]
    cases hf : lots.find? (good nums ts lot) with
    | none =>
      have := List.find?_eq_none.mp hf lot hl
      exact absurd (good_lot W L) this
    | some s =>
      show ∃ r, lots.filter (good nums ts lot) = s :: r
      have hh : (lots.filter (good nums ts lot)).head? = some s := by rw [List.head?_filter]; exact hf
      cases hc : lots.filter (good nums ts lot) with
      | nil => rw [hc] at hh; cases hh
      | cons y r =>
        rw [hc] at hh
        have : y = s := Option.some.inj hh
        subst this
        exact ⟨r, rfl⟩
theorem leastLow_good {nums : List Int} {ts : Ties} (W : Web nums ts) {lot : List Int} (L : Lot nums.length lot) {lots : List (List Int)} (hl : lot ∈ lots) : good nums ts lot (leastLow lots nums ts lot) = true ∧ (leastLow lots nums ts lot = [] ∨ leastLow lots nums ts lot ∈ lots) := by
  obtain ⟨r, h⟩ := good_head W L hl
  have hm : leastLow lots nums ts lot ∈ ([] :: lots).filter (lawGood nums ts lot) := by rw [h]; exact List.mem_cons_self
  obtain ⟨a, b⟩ := List.mem_filter.mp hm
  exact ⟨by rw [← lawGood_eq W L]; exact b, List.mem_cons.mp a⟩
theorem leastLow_free {nums : List Int} {ts : Ties} (W : Web nums ts) {lot : List Int} (L : Lot nums.length lot) {lots : List (List Int)} (hl : lot ∈ lots) : deep (lower nums (leastLow lots nums ts lot)) ts nums.length lot = [] := by
  have g := (leastLow_good W L hl).1
  rw [← lawGood_eq W L] at g
  unfold lawGood at g
  rw [decide_eq_true_eq] at g
  exact g.2

/-! ### all lots -/
def subs : Nat → List (List Int)
  | 0 => [[]]
  | n + 1 => subs n ++ (subs n).map fun l => l ++ [(n : Int)]
theorem subs_len : ∀ n : Nat, (subs n).length = 2 ^ n
  | 0 => rfl
  | n + 1 => by
    show (subs n ++ (subs n).map fun l => l ++ [(n : Int)]).length = 2 ^ (n + 1)
    rw [List.length_append, List.length_map, subs_len n, Nat.pow_succ]
    omega
theorem subs_mem : ∀ {n : Nat} {l : List Int}, l ∈ subs n ↔ l.Pairwise (· < ·) ∧ ∀ x ∈ l, 0 ≤ x ∧ x < n
  | 0, l => by
    show l ∈ [[]] ↔ _
    rw [List.mem_singleton]
    constructor
    · intro e
      subst e
      exact ⟨List.Pairwise.nil, fun x h => by cases h⟩
    · rintro ⟨_, h⟩
      cases l with
      | nil => rfl
      | cons x r =>
        have := h x List.mem_cons_self
        omega
  | n + 1, l => by
    show l ∈ subs n ++ (subs n).map (fun l => l ++ [(n : Int)]) ↔ _
    rw [List.mem_append, List.mem_map]
    constructor
    · rintro (h | ⟨m, h, e⟩)
      · obtain ⟨h1, h2⟩ := subs_mem.mp h
        exact ⟨h1, fun x hx => by have := h2 x hx; omega⟩
      · obtain ⟨h1, h2⟩ := subs_mem.mp h
        subst e
        refine ⟨List.pairwise_append.mpr ⟨h1, by simp, fun a ha b hb => ?_⟩, fun x hx => ?_⟩
        · simp at hb
          have := h2 a ha
          omega
        · rcases List.mem_append.mp hx with q | q
          · have := h2 x q
            omega
          · simp at q
            omega
    · rintro ⟨h1, h2⟩
      by_cases hn : (n : Int) ∈ l
      · refine .inr ⟨l.filter fun x => decide (x < n), subs_mem.mpr ⟨h1.filter _, fun x hx => ?_⟩, ?_⟩
        · obtain ⟨a1, a2⟩ := List.mem_filter.mp hx
          rw [decide_eq_true_eq] at a2
          have := h2 x a1
          omega
        · refine ssort_ext (List.pairwise_append.mpr ⟨h1.filter _, by simp, fun a ha b hb => ?_⟩) h1 fun x => ?_
          · simp at hb
            obtain ⟨_, a2⟩ := List.mem_filter.mp ha
            rw [decide_eq_true_eq] at a2
            omega
          · rw [List.mem_append, List.mem_filter, decide_eq_true_eq, List.mem_singleton]
            constructor
            · rintro (h | h)
              · exact h.1
              · subst h
                exact hn
            · intro h
              have := h2 x h
              by_cases e : x = n
              · exact .inr e
              · exact .inl ⟨h, by omega⟩
      · refine .inl (subs_mem.mpr ⟨h1, fun x hx => ?_⟩)
        have := h2 x hx
        have hne : x ≠ (n : Int) := fun e => hn (e ▸ hx)
        omega
theorem subs_lot {n : Nat} {l : List Int} : (l ∈ subs n ∧ l ≠ []) ↔ Lot n l := by
  rw [subs_mem]
  exact ⟨fun ⟨⟨a, b⟩, c⟩ => ⟨c, a, b⟩, fun h => ⟨⟨h.asc, h.mem⟩, h.ne⟩⟩
/-! ### drawn webs: each person but the first has a tie to an earlier one -/
theorem tree_con {ts : Ties} {n : Nat} (h : ∀ x : Int, 1 ≤ x → x < n → ∃ y, 0 ≤ y ∧ y < x ∧ (y, x) ∈ ts) : ∀ (k : Nat) (x : Int), x.toNat ≤ k → 0 ≤ x → x < n → Reach ts (everyone n) 0 x
  | 0, x, hk, h0, _ => by
    have : x = 0 := by omega
    subst this
    exact .refl
  | k + 1, x, hk, h0, hn => by
    by_cases e : x = 0
    · subst e
      exact .refl
    · obtain ⟨y, a1, a2, a3⟩ := h x (by omega) hn
      exact (tree_con h k y (by omega) a1 (by omega)).step (.inl a3) (everyone_mem.mpr ⟨h0, hn⟩)
end Dw

/-! Rules that the layer lacks: enumerate over a tuple, min of a tuple, sorted of data. -/
namespace PySem
open AutoSeq1 (wpAny_loadPart')
set_option maxHeartbeats 1000000 in
theorem dw_meets_enum_new {v : Value} {o : Obj} {H : Heap → Prop} (B : Begins v o H) :
    Meets (Builtin.«enumerate.__new__» ⟨[.type "enumerate", v], []⟩) (fun _ R s => H s.heap ∧
      R (.ok (.ret (.ref (s.heap.push o).objs.size))) { s with heap := (s.heap.push o).push { cls := .type "enumerate", data := .fields #[.none, .bool false, .ref s.heap.objs.size, rawInt 0, .none, .none] } }) :=
  .of_wp fun prog w A R s h => by
    obtain ⟨hp, g, d, tk, os⟩ := s; obtain ⟨h1, h⟩ := h
    have hsub := sub_enumerate
    have q1 : ∀ {A' : Around} {E : Value → Shared → Prop} {Q : Value → Shared → Prop}, Q (.ref hp.objs.size) ⟨hp.push o, g, d, tk, os⟩ → wpAny (model prog w) A' (pyIter v) Q E ⟨hp, g, d, tk, os⟩ :=
      fun q => B.iter prog w _ _ ⟨hp, g, d, tk, os⟩ _ h1 q
    wp_walk using q1
    refine wpAny_stack_any fun st => wpAny_pure ?_
    split
    · rename_i c _ _ _ _ _
      cases (c == Value.type "enumerate")
      · wp_walk using q1
        exact ⟨_, rfl, h⟩
      · wp_walk using q1
        exact ⟨_, rfl, h⟩
    · wp_walk using q1
      exact ⟨_, rfl, h⟩
section
variable {prog : Program} {w : World} {A : Around} {E : Value → Shared → Prop} {s : Shared}
theorem dw_enum_begins {v : Value} {o : Obj} {H : Heap → Prop} {Q : Value → Shared → Prop} (B : Begins v o H) (h1 : H s.heap)
    (h : ∀ h', IsEnum h' (s.heap.objs.size + 1) s.heap.objs.size 0 .none → h'.get? s.heap.objs.size = some o → h'.objs.size = s.heap.objs.size + 2 →
      (∀ b o, s.heap.get? b = some o → h'.get? b = some o) → Q (.ref (s.heap.objs.size + 1)) { s with heap := h' }) :
    wpAny (model prog w) A (call (.type "enumerate") [v]) Q E s := by
  refine callType_new F.called_enumerate (by decide) (F.typeCall_enumerate_1 _) (F.newCall_enumerate_1 _) (fun obj => F.args_object_init_2 obj _) F.entry_enumerate_new
    (dw_meets_enum_new B) ⟨h1, ?_⟩
  have hz : (s.heap.push o).objs.size = s.heap.objs.size + 1 := Heap.size_push ..
  show _ ∧ _
  rw [hz]
  have he : IsEnum ((s.heap.push o).push { cls := .type "enumerate", data := .fields #[.none, .bool false, .ref s.heap.objs.size, rawInt 0, .none, .none] }) (s.heap.objs.size + 1) s.heap.objs.size 0 .none := by
    have := Heap.get?_push_size (s.heap.push o) (o := { cls := .type "enumerate", data := .fields #[.none, .bool false, .ref s.heap.objs.size, rawInt 0, .none, .none] }) rfl
    rw [hz] at this; exact this
  refine ⟨⟨_, he, rfl⟩, h _ he (Heap.get?_push_of_some _ (Heap.get?_push_size _ B.free)) (by rw [Heap.size_push, hz]) fun b o x => Heap.get?_push_of_some _ (Heap.get?_push_of_some _ x)⟩
end
end PySem

namespace Dw
open PySem PySem.Spec PyProof.Rows L2
/-! ### enumerate(tuple) -/
def IteT (K : PySem.W.Frag) (a : Addr) : It :=
  ⟨fun i H => ∃ (xs : List V) (x : V), SqT K H a xs ∧ xs[i]? = some x, fun i H v H' => ∃ T x, v = .ref T ∧ H T = none ∧ H' = upd H T (.tup [.int (i : Nat), x]) ∧ ∀ xs, SqT K H a xs → xs[i]? = some x, fun i H => ∃ xs : List V, SqT K H a xs ∧ xs.length ≤ i⟩
theorem turn_enumT {P : Program} {w : World} {K : PySem.W.Frag} {elts : List Expr} {kk : Nat} {tpos : Pos} (a e it : Addr) (hea : e ≠ a) (hta : a ≠ it) :
    Turn P w K (.Tuple elts kk tpos) (IteT K a) [e, it] e (fun i h => (∃ old, IsEnum h e it ((i : Nat) : Int) old) ∧ h.IsTupleIter it a i ∧ e ≠ it) where
  mem := by simp
  obj := fun i h st b hb => by
    obtain ⟨⟨old, he⟩, ⟨o, ho, hc, hd⟩, _⟩ := st
    have e' : b = e ∨ b = it := by simpa using hb
    rcases e' with z | z
    · rw [z]; exact ⟨_, he, fun v q => nomatch q⟩
    · rw [z]; exact ⟨o, ho, fun v q => by rw [hd] at q; cases q⟩
  keep := fun i h h' st k => let ⟨⟨old, he⟩, hi, hne⟩ := st; ⟨⟨old, k e (by simp) _ he⟩, hi.at fun o q => k it (by simp) o q, hne⟩
  item := by
    intro X hP hw hK hc i pins s σ H E I hf st hg
    subst hP hw hK
    obtain ⟨⟨old, he⟩, hit, hne⟩ := st
    obtain ⟨xs, x, hq, hx⟩ := hg
    obtain ⟨its, rv, p, hz⟩ := I.tuple hq
    obtain ⟨u, hu, ru⟩ := rv.get hx
    have hel : e < s.heap.objs.size := Heap.lt_size he
    have hil : it < s.heap.objs.size := by obtain ⟨_, q, _⟩ := hit; exact Heap.lt_size q
    have hu2 : its.toArray[i]? = some u := by simpa using hu
    have hlt : i < its.toArray.size := by
      cases Nat.lt_or_ge i its.toArray.size with
      | inl h => exact h
      | inr h => rw [Array.getElem?_eq_none h] at hu2; cases hu2
    refine wpAny_pyNext_enum_itemD (Draws.tuple (A := X.A.in1) (show X.A.in1.handled = none from I.ok.hd hc) it a hta its.toArray) he ⟨hit, p⟩ hlt hne (by simp [hne, hea]) fun x' h' tk hP ho hit' hT hsz hk => ?_
    have ex : x' = u := Option.some.inj (hP.symm.trans hu2)
    subst ex
    refine ⟨_, rfl, wpAny_letOwnedTupleGo_enum (s := { s with heap := h', toks := tk + 1 }) ho fun h'' he' sb => ?_⟩
    have hT2 : h''.get? s.heap.objs.size = some { cls := .type "tuple", data := .seq #[.int i tk, x'] } := (sb.2 _ (Nat.ne_of_gt hel)).trans hT
    have new : ObjOk X.prog X.w (upd H s.heap.objs.size (.tup [.int (i : Nat), x])) h'' s.heap.objs.size (.tup [.int (i : Nat), x]) :=
      ⟨by show 2 ≤ sizeLine; decide, [.int i tk, x'], .cons ⟨_, rfl⟩ (.cons ru .nil), ⟨_, hT2, rfl, _, rfl⟩⟩
    have I1 : Inv X pins σ (upd H s.heap.objs.size (.tup [.int (i : Nat), x])) { s with heap := h'', toks := tk + 1 } :=
      I.turnedNew (ch := [e, it]) (fun b ob hb q => (sb.2 b (fun z => hb (by simp [z]))).trans (hk b ob (fun z => hb (by simp [z])) (fun z => hb (by simp [z])) q)) hf (Nat.le_refl _) new
    refine ⟨.ref s.heap.objs.size, _, I1, rfl, ⟨_, x, rfl, I.hok.fresh (Nat.le_refl _), rfl, fun ys hy => by rw [I.tuple_inj hy hq]; exact hx⟩, ⟨⟨x', ?_⟩, hit'.1.at fun o q => (sb.2 it (Ne.symm hne)).trans q, hne⟩, fun b hb => ?_⟩
    · have e1 : ((i + 1 : Nat) : Int) = (i : Int) + 1 := by omega
      rw [e1]; exact he'
    · have hb' : b < s.heap.objs.size := by
        have e' : b = e ∨ b = it := by simpa using hb
        rcases e' with z | z
        · rw [z]; exact hel
        · rw [z]; exact hil
      rw [upd_ne (Nat.ne_of_lt hb')]
      exact (hf b hb).1
  done := by
    intro X hP hw hK hc i pins s σ H E I hf st hg
    subst hP hw hK
    obtain ⟨⟨old, he⟩, hit, hne⟩ := st
    obtain ⟨xs, hq, hx⟩ := hg
    obtain ⟨its, rv, p, hz⟩ := I.tuple hq
    obtain ⟨f0, f1, f2, f3, f4, f5⟩ := hf it (by simp)
    have hl := rv.length
    have hT : s.TypeIs (.ref e) "enumerate" := ⟨_, he, rfl⟩
    unfold pyNext
    refine wpAny_bind (wpAny_attempt (wpAny_callSpecial?_slot (name := Str.ofString "__next__") hT F.slot_enumerate_next
      (wpAny_call_entry F.slot_enumerate_next hT F.entry_enumerate_next ?_ (F.args_enumerate_next_1 _))))
    show wpAny _ _ (field (.ref e) 2 >>= _) _ _ _
    refine wpAny_bind (wpAny_field he rfl (x := .ref it) rfl ?_)
    refine wpAny_bind (wpAny_nextOf_tuple_end (I.ok.hd hc) hit p (by simp; omega) fun h' x he' hx' => ?_)
    obtain ⟨o, ho, hc2⟩ := hx'
    refine wpAny_bind (wpAny_isInstance (T := "StopIteration") (b := true) ⟨o, ho, hc2⟩ isSubtype_stop ?_)
    exact wpAny_pure ⟨rfl, I.turned (t' := s.toks) (fun b o hb q => he' b o hb q) f0 f1 f3 f4 f5⟩
  self := fun A i s Q E st h => let ⟨⟨_, he⟩, _⟩ := st; wpAny_pyIter_enum he h
def iEnumT (K : PySem.W.Frag) (ta : TA) : TI := fun σ H R => ta σ H fun vs H1 => ∃ a xs, vs = [.ref a] ∧ SqT K H1 a xs ∧ R (IteT K a) H1
theorem pi_enumT {X : Cx} {e : Expr} {ta : TA} {p pos tpos : Pos} {elts : List Expr} {kk : Nat} (hg : Gl X "enumerate") (hm : X.mg "enumerate" = none) (ha : PA X [e] ta) (hs : starEach [e] X.env = [(false, eval e X.env)] := by rfl) :
    PI X (.Tuple elts kk tpos) (.Call (.Name "enumerate" p) [e] [] pos) (iEnumT X.K ta) := by
  refine ⟨fun pins s σ H R I h => ?_⟩
  refine Call_ (ld_blt I hg hm boot_enumerate (PyProof.Rows.callWith_type1 (thn (ha.run pos pins s σ H _ I h) fun us s1 ⟨vs, H1, I1, r1, q1⟩ => ?_) hs rfl))
  obtain ⟨a, xs, ex, hq, q⟩ := q1
  subst ex
  cases r1 with
  | cons r rr =>
    cases rr
    cases r
    obtain ⟨its, rv, p', hz⟩ := I1.tuple hq
    have hlt : a < s1.heap.objs.size := p'.lt
    refine dw_enum_begins (begins_tuple a its.toArray) (show s1.heap.IsTuple a its.toArray from p') fun h' he hit hsz hk => wpAny_pyIter_enum he ?_
    have I2 : Inv X pins σ H1 { s1 with heap := h' } := I1.kept (t' := s1.toks) hk
    refine ⟨s1.heap.objs.size + 1, [s1.heap.objs.size + 1, s1.heap.objs.size], _, _, H1, rfl, I2, turn_enumT a (s1.heap.objs.size + 1) s1.heap.objs.size (Nat.ne_of_gt (Nat.lt_succ_of_lt hlt)) (Nat.ne_of_lt hlt), ⟨⟨.none, he⟩, ⟨_, hit, rfl, rfl⟩, Nat.succ_ne_self _⟩, fun b hb => ?_, q⟩
    have e' : b = s1.heap.objs.size + 1 ∨ b = s1.heap.objs.size := by simpa using hb
    have hle : s1.heap.objs.size ≤ b := by
      rcases e' with z | z
      · rw [z]; exact Nat.le_add_right _ _
      · rw [z]; exact Nat.le_refl _
    exact I1.fpOk hle (I1.hok.fresh hle)
/-! ### min of a tuple of ints -/
def rMinT (K : PySem.W.Frag) : List V → Hp → VK → Prop := fun vs H Q => ∃ (a : Addr) (ns : List Int), vs = [V.ref a] ∧ SqT K H a (ns.map V.int) ∧ 0 < ns.length ∧ ∀ m, m ∈ ns → (∀ y, y ∈ ns → m ≤ y) → Q (.int m) H
theorem minOf_spec : ∀ (xs : List Int) (x : Int), PySem.W.minOf x xs ∈ x :: xs ∧ ∀ y ∈ x :: xs, PySem.W.minOf x xs ≤ y
  | [], x => ⟨List.mem_cons_self, fun y hy => by
      simp at hy
      subst hy
      exact Int.le_refl _⟩
  | y :: ys, x => by
    have e : PySem.W.minOf x (y :: ys) = PySem.W.minOf (if PySem.W.DatumOrd.lt y x = true then y else x) ys := rfl
    have l : PySem.W.DatumOrd.lt y x = decide (y < x) := rfl
    rw [e, l]
    by_cases h : y < x
    · rw [if_pos (by simpa using h)]
      obtain ⟨a, b⟩ := minOf_spec ys y
      refine ⟨List.mem_cons_of_mem _ a, fun z hz => ?_⟩
      rcases List.mem_cons.mp hz with q | q
      · have := b y List.mem_cons_self
        omega
      · exact b z q
    · rw [if_neg (by simpa using h)]
      obtain ⟨a, b⟩ := minOf_spec ys x
      refine ⟨?_, fun z hz => ?_⟩
      · rcases List.mem_cons.mp a with q | q
        · rw [q]
          exact List.mem_cons_self
        · exact List.mem_cons_of_mem _ (List.mem_cons_of_mem _ q)
      · rcases List.mem_cons.mp hz with q | q
        · rw [q]
          exact b x List.mem_cons_self
        · rcases List.mem_cons.mp q with q | q
          · have := b x List.mem_cons_self
            omega
          · exact b z (List.mem_cons_of_mem _ q)
theorem dpAll_ints {K : PySem.W.Frag} {H : Hp} : ∀ ns : List Int, DpAll K H (ns.map V.int) (ns.map PyData.int)
  | [] => .nil
  | n :: ns => .cons (.int n) (dpAll_ints ns)
theorem cr_minT {X : Cx} (hc : X.calm = true) (hu : X.A.units + 64 < cLine) : CallR X (.builtin "min") (rMinT X.K) := by
  intro pins s σ H vs us Q I r h
  obtain ⟨a, ns, rfl, hs, hne, q⟩ := h
  obtain ⟨its, rv, hl, _⟩ := I.tuple hs
  rw [Vals.ref1 r]
  cases ns with
  | nil => exact absurd hne (Nat.lt_irrefl _)
  | cons x xs =>
    obtain ⟨as, hr⟩ := Dp.readsAll I ((x :: xs).map PyData.int) _ its (dpAll_ints (x :: xs)) rv
    refine PySem.W.min_tuple_datum (α := Int) (x := x) (xs := xs) (I.ok.hd hc) (show s.heap.IsTuple a its.toArray from hl) ⟨as, hr⟩ (by
      have : PySem.W.Datum.depth Int = 0 := rfl
      omega) fun i v h' tk _ hv hk => ?_
    obtain ⟨bs, hv⟩ := hv
    have hv2 : Reads h' v (.int (PySem.W.minOf x xs)) bs := hv
    obtain ⟨t, rfl⟩ : ∃ t, v = .int (PySem.W.minOf x xs) t := by
      cases hv2
      exact ⟨_, rfl⟩
    obtain ⟨m1, m2⟩ := minOf_spec xs x
    exact ⟨.int _, H, I.kept hk, ⟨t, rfl⟩, q _ m1 m2⟩
/-! ### sorted of data -/
def rSortedD (K : PySem.W.Frag) : List V → Hp → VK → Prop := fun vs H Q => ∃ (a : Addr) (xs : List V) (ds : List PyData), vs = [V.ref a] ∧ SqL K H a xs ∧ DpAll K H xs ds ∧ PySem.W.AllAlike ds ∧ PySem.W.Sortable ds ∧ (∀ d ∈ ds, d.depth ≤ 60) ∧
  ∀ (ys : List V) (p : Addr), DpAll K H ys (ds.mergeSort (PySem.W.dataLe false id)) → H p = none → Q (.ref p) (upd H p (.lst ys))
theorem each_of_dp {K : PySem.W.Frag} {H : Hp} : ∀ {xs : List V} {ds : List PyData} {us : List Value}, DpAll K H xs ds → Vals xs us → PySem.W.EachIs (fun u d => ∃ x, RelV x u ∧ Dp K H x d) us ds
  | _, _, _, .nil, r => by
    cases r
    exact .nil
  | _, _, _, .cons h1 h2, r => by
    cases r with
    | cons r1 r2 => exact .cons ⟨_, r1, h1⟩ (each_of_dp h2 r2)
theorem dp_of_each {K : PySem.W.Frag} {H : Hp} : ∀ {us : List Value} {ds : List PyData}, PySem.W.EachIs (fun u d => ∃ x, RelV x u ∧ Dp K H x d) us ds → ∃ ys, Vals ys us ∧ DpAll K H ys ds
  | _, _, .nil => ⟨[], .nil, .nil⟩
  | _, _, .cons ⟨x, r, d⟩ h => by
    obtain ⟨ys, h1, h2⟩ := dp_of_each h
    exact ⟨x :: ys, .cons r h1, .cons d h2⟩
theorem DpAll.length {K : PySem.W.Frag} {H : Hp} : ∀ {xs : List V} {ds : List PyData}, DpAll K H xs ds → xs.length = ds.length
  | _, _, .nil => rfl
  | _, _, .cons _ h => by rw [List.length_cons, List.length_cons, DpAll.length h]
theorem each_len {α β : Type} {R : α → β → Prop} : ∀ {as : List α} {bs : List β}, PySem.W.EachIs R as bs → as.length = bs.length := PySem.W.EachIs.length
theorem cr_sortedD {X : Cx} (hu : X.A.units + 64 < cLine) : CallR X (.builtin "sorted") (rSortedD X.K) := by
  intro pins s σ H vs us Q I r h
  obtain ⟨a, xs, ds, rfl, hs, hd, hal, hso, hdep, q⟩ := h
  obtain ⟨its, rv, hl, hz⟩ := I.list hs
  rw [Vals.ref1 r]
  have hlen : xs.length = ds.length := DpAll.length hd
  have e := each_of_dp hd rv
  have er : PySem.W.EachIs (fun v b => ∃ as, Reads s.heap v (id b) as) its ds := e.mono fun u d ⟨x, r, dp⟩ => Dp.reads I d x u dp r
  refine PySem.W.sorted_data (enc := id) hl.isList e er (by rw [List.map_id]; exact hal) (by rw [List.map_id]; exact hso) (by rw [← hlen]; exact hz) (fun d hm => by
    have h1 := hdep d hm
    show X.A.units + 2 + d.depth < cLine
    omega) fun out ho ee => ?_
  obtain ⟨ys, h1, h2⟩ := dp_of_each ee
  obtain ⟨ep, he'⟩ := PyProof.Rows.sortedAll_at s.heap its out.toArray
  have hyl : ys.length ≤ sizeLine := by
    rw [h1.length, ho, ← hlen]
    exact hz
  exact ⟨.ref _, upd H (s.heap.objs.size + 1) (.lst ys), I.laid (t' := s.toks) (fun _ _ => PyProof.Rows.sortedAll_old) (Nat.le_succ _) ⟨hyl, _, ep, h1, he'⟩, rfl, q _ _ h2 (I.hok.fresh (Nat.le_succ _))⟩
end Dw

/-! sorted(xs, key=lambda lot: (len(lot), lot)). -/
namespace Dw
open PySem PySem.Spec PyProof.Rows L2 LamX
/-! ### reads of flat tuples bear no list -/
theorem readsAll_ints {h : Heap} : ∀ {ns : List Int} {us : List Value} {as : List Addr}, ReadsAll h us (ns.map PyData.int) as → as = []
  | [], _, _, r => by
    cases r
    rfl
  | n :: ns, _, _, r => by
    cases r with
    | cons h1 h2 =>
      cases h1
      rw [readsAll_ints h2]
      rfl
theorem readsAll_lenI {h : Heap} : ∀ {us : List Value} {ds : List PyData} {as : List Addr}, ReadsAll h us ds as → us.length = ds.length
  | _, _, _, .nil => rfl
  | _, _, _, .cons _ r => by rw [List.length_cons, List.length_cons, readsAll_lenI r]
/-! ### the lambda's call, over the heap alone -/
/-- the key's expression -/
abbrev keyBody (lot : Str) (k : Nat) (p1 p2 p3 p4 p5 : Pos) : Expr := .Tuple [.Call (.Name "len" p1) [.Name lot p2] [] p3, .Name lot p4] k p5
theorem key_turn {P : Program} {w : World} {K : PySem.W.Frag} {mg : Str → Option Value} {base : Heap} {A : Around} {outer : List Env} {s : Shared} {H : Hp} (e0 : Env0 P w K mg base A outer s H) (hr : A.depth < recursionLimit) (ml : mg "len" = none)
    {f c' a : Addr} {q : Str} {params : Arguments} {scope : Scope} {pm ctv : Value} {lot : Str} {k : Nat} {p1 p2 p3 p4 p5 : Pos} {us : List Value} {ns : List Int}
    (hf : s.heap.get? f = some (PySem.W.kla_obj "<lambda>" q params (keyBody lot k p1 p2 p3 p4 p5) scope [] pm c' ctv)) (hcd : s.heap.CodeRec (.ref c') q)
    (hco : scope.isCoroutine = false) (hgen : scope.isGenerator = false) (hk : scope.kind = .function) (hnc : ∀ x ∈ scope.names, x.2 ≠ .cell) (hlot : scope.names.lookup lot = some .local) (hlen : scope.names.lookup ("len" : Str) = some .globalImplicit)
    (hbind : bindArgs (PySem.W.kla_fn "<lambda>" q params (keyBody lot k p1 p2 p3 p4 p5) scope [] pm (.ref c') ctv) ⟨[.ref a], []⟩ = pure [(lot, .ref a)])
    (hne : lot ≠ "__name__") (hdb : (lot == ("__debug__" : Str)) = false) (ht : IsTup s.heap a us.toArray) (hi : ReadsAll s.heap us (ns.map PyData.int) []) (hz : us.length ≤ 1000) :
    wpAny (model P w) A (call (.ref f) [.ref a]) (PySem.W.KeyPure (.tuple [.int ns.length, .tuple (ns.map PyData.int)]) s) (fun _ _ => False) s := by
  have lim : s.heap.NoLimit := e0.mod.nolimit.keeps fun b o e => (e0.bs b o e).1
  refine wpAny_call ?_
  refine PySem.W.kla_callFunE hr hf rfl hco hgen rfl hcd ?_
  rw [hbind]
  refine wpAny_pure (wpAny_newFunctionEnv hnc (fun y hy => by
    have : y = (lot, Value.ref a) := by simpa using hy
    subst this
    exact hlot) (fun h₁ hns hsb => ⟨lim.fresh _ hsb, ?_⟩) hk)
  show codeAny _ _ (.expr _ (PySem.W.envX q scope s.heap.objs.size f (.ref c') [])) _ _
  have kp : ∀ b o, s.heap.get? b = some o → h₁.get? b = some o := fun b o e => hsb.extBut b o (Nat.ne_of_lt (Heap.lt_size e)) (Heap.get?_push_of_some _ e)
  refine PySem.W.kla_codeExpr (wpAny_Tuple_spliced ?_)
  have hloc : ∀ (t : Nat) (Q : Value → Shared → Prop) (E : Value → Shared → Prop) (pp : Pos), Q (.ref a) { s with heap := h₁, toks := t } → wpAny (model P w) (A.deeper (PySem.W.envX q scope s.heap.objs.size f (.ref c') [])) (eval (.Name lot pp) (PySem.W.envX q scope s.heap.objs.size f (.ref c') [])) Q E { s with heap := h₁, toks := t } := fun t Q E pp hq =>
    wpAny_Name (wpAny_loadName_local hk hlot hns (by rw [List.reverse_singleton]; simp [List.lookup]) hq) hdb
  have ht1 : IsTup h₁ a us.toArray := ht.keeps kp
  have ri1 : ReadsAll h₁ us (ns.map PyData.int) [] := PyProof.Rows.ReadsAll.keeps kp hi
  have hl : us.length = ns.length := by
    have := readsAll_lenI hi
    rw [List.length_map] at this
    exact this
  refine Calls.spliced_cons ?_
  obtain ⟨mb, b1, b2⟩ := e0.mod.blt
  refine wpAny_Call_Name_kw (Calls.Name_function_global hk hlen (Calls.loadGlobal_builtin (e0.mod.glob.keeps fun b o e => kp b o (e0.bs b o e).1) ml (b1.keeps fun b o e => kp b o (e0.bs b o e).1) ((b2 "len" (by decide)).trans PySem.boot_len) ?_) (by decide))
  refine callWith_builtin1 (hloc _ _ _ _ ?_)
  refine len_tuple ht1 (by rw [List.size_toArray]; omega) ?_
  refine Calls.spliced_cons (hloc _ _ _ _ ?_)
  refine Calls.spliced_nil ⟨by show 2 ≤ sizeLine; decide, ?_⟩
  have e1 : ((us.toArray.size : Nat) : Int) = (ns.length : Int) := by rw [List.size_toArray, hl]
  refine ⟨_, _, rfl, fun b o e => Heap.get?_push_of_some _ (kp b o e), ?_⟩
  refine Reads.tuple (Heap.get?_push_size _ rfl) rfl rfl ?_
  obtain ⟨o, ho, hc, n, hd⟩ := ht1
  rw [e1]
  exact ReadsAll.cons (.int _ _) (ReadsAll.cons (Reads.tuple (Heap.get?_push_of_some _ ho) hc hd (PyProof.Rows.ReadsAll.keeps (fun b o e => Heap.get?_push_of_some _ e) ri1)) .nil)

/-! ### all but the code tables stays; the tables stay sound -/
def Stp (T : List (Addr × Str)) (H H' : Hp) : Prop := ExtN H H' ∧ (Tabs T H → Tabs T H')
theorem Stp.refl {T : List (Addr × Str)} (H : Hp) : Stp T H H := ⟨ExtN.refl H, fun h => h⟩
theorem Stp.trans {T : List (Addr × Str)} {H H1 H2 : Hp} (a : Stp T H H1) (b : Stp T H1 H2) : Stp T H H2 := ⟨a.1.trans b.1, fun h => b.2 (a.2 h)⟩
theorem Stp.of_same {T : List (Addr × Str)} {H H' : Hp} (e : ∀ b o, H b = some o → H' b = some o) : Stp T H H' := ⟨ExtN.of e, fun t => t.ext e⟩
theorem Stp.new {T : List (Addr × Str)} {H : Hp} {p : Addr} {o : HO} (h : H p = none) : Stp T H (upd H p o) := .of_same fun a u e => by
  rw [upd_ne (ne_of_none e h)]
  exact e
theorem Stp.lst {T : List (Addr × Str)} {H H' : Hp} (e : Stp T H H') {a : Addr} {xs : List V} (h : H a = some (.lst xs)) : H' a = some (.lst xs) := e.1 a _ h fun ps z => by cases z
theorem Stp.tup {T : List (Addr × Str)} {H H' : Hp} (e : Stp T H H') {a : Addr} {xs : List V} (h : H a = some (.tup xs)) : H' a = some (.tup xs) := e.1 a _ h fun ps z => by cases z
theorem Stp.l {T : List (Addr × Str)} {K : PySem.W.Frag} {H H' : Hp} (e : Stp T H H') {a : Addr} {xs : List V} (h : SqL K H a xs) : SqL K H' a xs := by
  rcases h with (h | ⟨o, h⟩) | h
  · exact .inl (.inl (e.lst h))
  · exact .inl (.inr ⟨o, e.1 a _ h fun ps z => by cases z⟩)
  · exact .inr h
theorem Stp.t {T : List (Addr × Str)} {K : PySem.W.Frag} {H H' : Hp} (e : Stp T H H') {a : Addr} {xs : List V} (h : SqT K H a xs) : SqT K H' a xs := by
  rcases h with (h | ⟨o, h⟩) | h
  · exact .inl (.inl (e.tup h))
  · exact .inl (.inr ⟨o, e.1 a _ h fun ps z => by cases z⟩)
  · exact .inr h
/-- the key of a lot -/
abbrev keyD (l : List Int) : PyData := .tuple [.int l.length, .tuple (l.map PyData.int)]
def wSortLam (T : List (Addr × Str)) (K : PySem.W.Frag) (x : V) (H1 : Hp) (Q : VK) : Prop := Tabs T H1 ∧ ∃ (a : Addr) (ls : List (Addr × List Int)), x = V.ref a ∧ SqL K H1 a (ls.map fun p => V.ref p.1) ∧ (∀ p ∈ ls, SqT K H1 p.1 (p.2.map V.int) ∧ p.2.length ≤ 1000) ∧
  ∀ (H2 : Hp) (b : Addr), Stp T H1 H2 → H2 b = none → Q (.ref b) (upd H2 b (.lst ((ls.mergeSort (PySem.W.dataLe false fun p => keyD p.2)).map fun p => V.ref p.1)))
def oneV (W : V → Hp → Prop) : List V → Hp → Prop := fun vs H => match vs with
  | [x] => W x H
  | _ => False
def tSortLam (T : List (Addr × Str)) (K : PySem.W.Frag) (te : TE) : TE := fun σ H Q => te σ H fun x H1 => wSortLam T K x H1 Q
theorem alike_key (l m : List Int) : PySem.W.alike (keyD l) (keyD m) = true := by
  simp only [PySem.W.alike, PySem.W.alikeAll, PySem.W.alike_ints, Bool.and_self]
theorem depth_key (l : List Int) : (keyD l).depth ≤ 60 := by
  have := PySem.W.depth_ints l
  simp [PyData.depth, PyData.depthAll, this]
theorem each_ref {out : List Value} {ls : List (Addr × List Int)} (h : PySem.W.EachIs (fun v (p : Addr × List Int) => v = Value.ref p.1) out ls) : out = ls.map fun p => Value.ref p.1 := by
  induction h with
  | nil => rfl
  | cons e _ ih => rw [List.map_cons, e, ih]
theorem each_refs : ∀ ls : List (Addr × List Int), PySem.W.EachIs (fun v (p : Addr × List Int) => v = Value.ref p.1) (ls.map fun p => Value.ref p.1) ls
  | [] => .nil
  | _ :: ls => .cons rfl (each_refs ls)
theorem vals_refs2 : ∀ ls : List (Addr × List Int), Vals (ls.map fun p => V.ref p.1) (ls.map fun p => Value.ref p.1)
  | [] => .nil
  | _ :: ls => .cons rfl (vals_refs2 ls)
theorem vals_refs_eq : ∀ {ls : List (Addr × List Int)} {us : List Value}, Vals (ls.map fun p => V.ref p.1) us → us = ls.map fun p => Value.ref p.1
  | [], _, r => by
    cases r
    rfl
  | p :: ls, _, r => by
    cases r with
    | cons h t => rw [vals_refs_eq t, show _ = Value.ref p.1 from h] <;> rfl
section
variable {X : Cx}
theorem pe_sortedLam {T : List (Addr × Str)} {c P : Addr} {e : Expr} {te : TE} {params : Arguments} {scope : Scope} {lot : Str} {k j : Nat} {p1 p2 p3 p4 p5 lpos kpos p pos : Pos} (hg : Gl X "sorted") (hm : X.mg "sorted" = none) (ml : X.mg "len" = none) (hr : Room (j + 2) X.A)
    (he : PE X e te) (TB : TabB X.base X.mg c P) (hcode : X.env.code = .ref c) (hmT : (P, X.env.qual ++ "<lambda>") ∈ T) (hu : ∀ p ∈ T, p.1 = P → p.2 = X.env.qual ++ "<lambda>") (hdef : defaultsOf params X.env = ([], []))
    (hbind : ∀ (q : Str) (pm cv ctv : Value) (a : Addr), bindArgs (PySem.W.kla_fn "<lambda>" q params (keyBody lot k p1 p2 p3 p4 p5) scope [] pm cv ctv) ⟨[.ref a], []⟩ = pure [(lot, .ref a)])
    (hco : scope.isCoroutine = false) (hgen : scope.isGenerator = false) (hk : scope.kind = .function) (hnf : scope.names.all (fun x => !decide (x.2 = .cell) && !decide (x.2 = .free)) = true) (hclo : cloFrom X.env.cells scope.names [] = [])
    (hlot : scope.names.lookup lot = some .local) (hlen : scope.names.lookup ("len" : Str) = some .globalImplicit) (hne : lot ≠ "__name__") (hdb : (lot == ("__debug__" : Str)) = false)
    (hs : starEach [e] X.env = (false, eval e X.env) :: starEach [] X.env := by rfl) :
    PE X (.Call (.Name "sorted" p) [e] [⟨some "key", .Lambda params (keyBody lot k p1 p2 p3 p4 p5) scope lpos, kpos⟩] pos) (tSortLam T X.K te) := by
  refine ⟨fun pins s σ H Q I h => ?_⟩
  refine wpAny_Call_Name_kw (ld_blt I hg hm PyProof.Rows.boot_sorted ?_)
  refine PyProof.Rows.callWith_kw (thn ((pa_cons he pa_nil hs).run pos pins s σ H (oneV fun x H1 => wSortLam T X.K x H1 Q) I h) fun us s1 ⟨vs, H1, I1, r1, q1⟩ => ?_) (by rw [hs]; rfl) (by rw [hs]; rfl) (by rfl) (by rfl)
  have hlen1 : ∃ x, vs = [x] := by
    match vs, q1 with
    | [x], _ => exact ⟨x, rfl⟩
  obtain ⟨x, rfl⟩ := hlen1
  obtain ⟨hT, a, ls, ex, hS, hL, q⟩ := (show wSortLam T X.K x H1 Q from q1)
  subst ex
  obtain rfl := Vals.ref1 r1
  show wpAny _ _ (evalAll ((do let v ← eval (.Lambda params (keyBody lot k p1 p2 p3 p4 p5) scope lpos) X.env; standAt pos; pure v) :: [])) _ _ s1
  have hfree : ∀ y ∈ scope.names, y.2 = .free → ∃ c, X.env.cells.lookup y.1 = some c := fun y hy e => by
    have := List.all_eq_true.mp hnf y hy
    rw [e] at this
    simp at this
  have hnc : ∀ y ∈ scope.names, y.2 ≠ .cell := fun y hy e => by
    have := List.all_eq_true.mp hnf y hy
    rw [e] at this
    simp at this
  refine wpAny_evalAll_cons (wpAny_bind (lam_make2 I1 TB hcode hmT hu hT hdef hfree fun f c' pm ctv H2 s2 I2 eN T2 hf hfn hfr hco' => wpAny_bind (wpAny_standAt (wpAny_pure (wpAny_evalAll_nil ?_)))))
  rw [hclo] at hf
  have stp : Stp T H1 H2 := ⟨eN, fun _ => T2⟩
  obtain ⟨its, rv, pl, hz⟩ := I2.list (stp.l hS)
  have eits := vals_refs_eq rv
  subst eits
  have hR : Room (j + 2) X.A := hr
  show wpAny _ _ (call (.builtin "sorted") [.ref a] [(("key" : Str), .ref f)]) _ _ s2
  refine PySem.W.sorted_key_data (b := false) (R := fun v (p : Addr × List Int) => v = Value.ref p.1) (bs := ls) (fun p => keyD p.2) pl.isList (each_refs ls) (fun d hd d' hd' => ?_) (.inl fun d hd => ?_) (by rw [List.length_map] at hz; exact hz) (fun p hp => ?_) (PyProof.Rows.ksk_s1 _ _) (fun _ => PyProof.Rows.ksk_l1 _ _) (fun _ => PyProof.Rows.ksk_t1 _ _) (fun v p ev hp h tk kp => ?_) (fun out cc h' tk kp fresh hD ho ee => ?_)
  · obtain ⟨p, _, rfl⟩ := List.mem_map.mp hd
    obtain ⟨p', _, rfl⟩ := List.mem_map.mp hd'
    exact alike_key _ _
  · obtain ⟨p, _, rfl⟩ := List.mem_map.mp hd
    exact ⟨_, _, rfl⟩
  · have := depth_key p.2
    have := hR.units
    show X.A.units + 2 + (keyD p.2).depth < cLine
    have := hR.un
    omega
  · subst ev
    have I3 : Inv X pins σ H2 { s2 with heap := h, toks := tk } := I2.kept kp
    obtain ⟨its2, rv2, pt, hz2⟩ := I3.tuple (stp.t (hL p hp).1)
    obtain ⟨as, hr2⟩ := Dp.readsAll I3 (p.2.map PyData.int) _ its2 (dpAll_ints p.2) rv2
    have has := readsAll_ints hr2
    subst has
    obtain ⟨⟨oc, vs2, t2, hoc, hdc, hvc⟩, _, _⟩ := I3.hok c' _ hco'
    refine key_turn (s := { s2 with heap := h, toks := tk }) I3.env0.in1.in1 (by
      have := hR.dp
      show X.A.depth < recursionLimit
      omega) ml (kp _ _ hf) ⟨c', oc, vs2, t2, rfl, hoc, hdc, hvc⟩ hco hgen hk hnc hlot hlen (hbind _ _ _ _ _) hne hdb pt hr2 (by
        have := rv2.length
        rw [List.length_map] at this
        have := (hL p hp).2
        omega)
  · have eo := each_ref ee
    subst eo
    have I3 : Inv X pins σ (upd H2 (s2.heap.objs.size + 1) (.lst ((ls.mergeSort (PySem.W.dataLe false fun p => keyD p.2)).map fun p => V.ref p.1))) { s2 with heap := h', toks := tk } :=
      I2.laid (t' := tk) kp (Nat.le_succ _) ⟨by
        rw [List.length_map]
        rw [List.length_map] at ho
        rw [List.length_map] at hz
        rw [ho]
        exact hz, _, cc, vals_refs2 _, hD⟩
    exact ⟨.ref _, _, I3, rfl, q _ _ stp (I2.hok.fresh (Nat.le_succ _))⟩
end
end Dw

/-! What a reading evaluates to, as data. -/
namespace Dw
open PySem PySem.Spec PyProof.Rows L2 LamX

/-! ### data of ints, lots, webs -/
abbrev dLot (l : List Int) : PyData := .tuple (l.map PyData.int)
abbrev dLs (l : List Int) : PyData := .list (l.map PyData.int)
abbrev dTie (t : Int × Int) : PyData := .tuple [.int t.1, .int t.2]
abbrev dTies (ts : Ties) : PyData := .tuple (ts.map dTie)
abbrev dWeb (nums : List Int) (ts : Ties) : PyData := .tuple [dLot nums, dTies ts]
abbrev dLots (ls : List (List Int)) : PyData := .tuple (ls.map dLot)
abbrev dLotsL (ls : List (List Int)) : PyData := .list (ls.map dLot)

mutual
/-- no list within -/
def tupOnly : PyData → Bool
  | .list _ => false
  | .dict _ => false
  | .tuple ds => tupOnlyAll ds
  | _ => true
def tupOnlyAll : List PyData → Bool
  | [] => true
  | d :: ds => tupOnly d && tupOnlyAll ds
end
theorem tupOnlyAll_map {α : Type} {enc : α → PyData} (h : ∀ a, tupOnly (enc a) = true) : ∀ as : List α, tupOnlyAll (as.map enc) = true
  | [] => rfl
  | a :: as => by
    rw [List.map_cons]
    show (tupOnly (enc a) && tupOnlyAll (as.map enc)) = true
    rw [h a, tupOnlyAll_map h as]
    rfl
theorem to_int (i : Int) : tupOnly (.int i) = true := rfl
theorem to_bool (i : Bool) : tupOnly (.bool i) = true := rfl
theorem to_lot (l : List Int) : tupOnly (dLot l) = true := tupOnlyAll_map to_int l
theorem to_tie (t : Int × Int) : tupOnly (dTie t) = true := rfl
theorem to_ties (ts : Ties) : tupOnly (dTies ts) = true := tupOnlyAll_map to_tie ts
theorem to_web (nums : List Int) (ts : Ties) : tupOnly (dWeb nums ts) = true := by
  show (tupOnly (dLot nums) && (tupOnly (dTies ts) && true)) = true
  rw [to_lot, to_ties]
  rfl

section
variable {T : List (Addr × Str)} {K : PySem.W.Frag} {H H' : Hp}
mutual
theorem Stp.dp (e : Stp T H H') : ∀ {v : V} {d : PyData}, Dp K H v d → Dp K H' v d
  | _, _, .non => .non
  | _, _, .bl b => .bl b
  | _, _, .int i => .int i
  | _, _, .str x => .str x
  | _, _, .lst h1 h2 => .lst (e.l h1) (Stp.dpAll e h2)
  | _, _, .tup h1 h2 => .tup (e.t h1) (Stp.dpAll e h2)
theorem Stp.dpAll (e : Stp T H H') : ∀ {vs : List V} {ds : List PyData}, DpAll K H vs ds → DpAll K H' vs ds
  | _, _, .nil => .nil
  | _, _, .cons h1 h2 => .cons (Stp.dp e h1) (Stp.dpAll e h2)
end
/-- tuples and known things stay -/
def Tk (H H' : Hp) : Prop := (∀ a xs, H a = some (.tup xs) → H' a = some (.tup xs)) ∧ ∀ a o u, H a = some (.frz o u) → H' a = some (.frz o u)
theorem Tk.refl (H : Hp) : Tk H H := ⟨fun _ _ h => h, fun _ _ _ h => h⟩
theorem Tk.trans {H1 : Hp} (a : Tk H H1) (b : Tk H1 H') : Tk H H' := ⟨fun c xs h => b.1 c xs (a.1 c xs h), fun c o u h => b.2 c o u (a.2 c o u h)⟩
theorem Stp.tk (e : Stp T H H') : Tk H H' := ⟨fun _ _ h => e.tup h, fun a o u h => e.1 a _ h fun ps z => by cases z⟩
theorem Tk.mut {l : Addr} {o : HO} (m : Mut (H l)) : Tk H (upd H l o) :=
  ⟨fun a xs h => by
    rw [upd_ne (fun z => by subst z; rw [h] at m; exact m)]
    exact h, fun a ob u h => by
    rw [upd_ne (fun z => by subst z; rw [h] at m; exact m)]
    exact h⟩
theorem Tk.t (e : Tk H H') {a : Addr} {xs : List V} (h : SqT K H a xs) : SqT K H' a xs := by
  rcases h with (h | ⟨o, h⟩) | h
  · exact .inl (.inl (e.1 _ _ h))
  · exact .inl (.inr ⟨o, e.2 _ _ _ h⟩)
  · exact .inr h
mutual
theorem Tk.dp (e : Tk H H') : ∀ {v : V} {d : PyData}, tupOnly d = true → Dp K H v d → Dp K H' v d
  | _, _, _, .non => .non
  | _, _, _, .bl b => .bl b
  | _, _, _, .int i => .int i
  | _, _, _, .str x => .str x
  | _, _, t, .lst h1 h2 => absurd (show false = true from t) Bool.false_ne_true
  | _, _, t, .tup h1 h2 => .tup (e.t h1) (Tk.dpAll e t h2)
theorem Tk.dpAll (e : Tk H H') : ∀ {vs : List V} {ds : List PyData}, tupOnlyAll ds = true → DpAll K H vs ds → DpAll K H' vs ds
  | _, _, _, .nil => .nil
  | _, _, t, .cons h1 h2 => .cons (Tk.dp e (Bool.and_eq_true_iff.mp t).1 h1) (Tk.dpAll e (Bool.and_eq_true_iff.mp t).2 h2)
end
/-- a list or a dict with tuple keys -/
def LD (o : Option HO) : Prop := (∃ xs, o = some (.lst xs)) ∨ ∃ kvs, o = some (.dT kvs)
theorem LD.mut {o : Option HO} (h : LD o) : Mut o := by
  rcases h with ⟨xs, h⟩ | ⟨xs, h⟩ <;> rw [h] <;> trivial
theorem LD.l {o : Option HO} {xs : List V} (h : o = some (.lst xs)) : LD o := .inl ⟨xs, h⟩
theorem tabs_mut {l : Addr} {o : HO} (m : LD (H l)) (t : Tabs T H) : Tabs T (upd H l o) := fun p hp => by
  obtain ⟨ps, h1, h2, h3⟩ := t p hp
  have n1 : p.1 ≠ l := fun z => by
    rw [z] at h1
    rcases m with ⟨xs, m⟩ | ⟨xs, m⟩ <;> rw [h1] at m <;> cases m
  refine ⟨ps, by rw [upd_ne n1]; exact h1, h2, fun pos cv hc => ?_⟩
  obtain ⟨c, e1, e2⟩ := h3 pos cv hc
  have n2 : c ≠ l := fun z => by
    rw [z] at e2
    rcases m with ⟨xs, m⟩ | ⟨xs, m⟩ <;> rw [e2] at m <;> (unfold CodeO at m; cases m)
  exact ⟨c, e1, by rw [upd_ne n2]; exact e2⟩
theorem Stp.mut {l : Addr} {o : HO} (e : Stp T H H') (h : H l = none) (m : LD (H' l)) : Stp T H (upd H' l o) :=
  ⟨fun a u ha n => by
    rw [upd_ne (ne_of_none ha h)]
    exact e.1 a u ha n, fun t => tabs_mut m (e.2 t)⟩
theorem Stp.upd {l : Addr} {o : HO} (e : Stp T H H') (h : H' l = none) : Stp T H (upd H' l o) := e.trans (.new h)

theorem DpAll.get {enc : α → PyData} : ∀ {xs : List V} {as : List α} {i : Nat} {x : V}, DpAll K H xs (as.map enc) → xs[i]? = some x → ∃ a, as[i]? = some a ∧ Dp K H x (enc a)
  | _, [], _, _, h, e => by
    cases h
    simp at e
  | _, a :: as, 0, _, h, e => by
    cases h with
    | cons h1 h2 =>
      simp at e
      subst e
      exact ⟨a, rfl, h1⟩
  | _, a :: as, i + 1, x, h, e => by
    cases h with
    | cons h1 h2 =>
      obtain ⟨b, q1, q2⟩ := DpAll.get (i := i) h2 (by simpa using e)
      exact ⟨b, by simpa using q1, q2⟩
theorem DpAll.getD : ∀ {xs : List V} {ds : List PyData} {i : Nat} {d : PyData}, DpAll K H xs ds → ds[i]? = some d → ∃ x, xs[i]? = some x ∧ Dp K H x d
  | _, _, _, _, .nil, e => by simp at e
  | _, _, 0, _, .cons h1 h2, e => by
    simp at e
    subst e
    exact ⟨_, rfl, h1⟩
  | _, _, i + 1, d, .cons h1 h2, e => by
    obtain ⟨b, q1, q2⟩ := DpAll.getD (i := i) h2 (by simpa using e)
    exact ⟨b, by simpa using q1, q2⟩
theorem DpAll.snoc {v : V} {d : PyData} (hv : Dp K H v d) : ∀ {xs : List V} {ds : List PyData}, DpAll K H xs ds → DpAll K H (xs ++ [v]) (ds ++ [d])
  | _, _, .nil => .cons hv .nil
  | _, _, .cons h1 h2 => .cons h1 (DpAll.snoc hv h2)
theorem DpAll.append {ys : List V} {es : List PyData} (hv : DpAll K H ys es) : ∀ {xs : List V} {ds : List PyData}, DpAll K H xs ds → DpAll K H (xs ++ ys) (ds ++ es)
  | _, _, .nil => hv
  | _, _, .cons h1 h2 => .cons h1 (DpAll.append hv h2)
theorem dp_int {v : V} {i : Int} (h : Dp K H v (.int i)) : v = .int i := by
  cases h
  rfl
theorem dp_bool {v : V} {i : Bool} (h : Dp K H v (.bool i)) : v = .bl i := by
  cases h
  rfl
theorem dpAll_int : ∀ {ns : List Int} {vs : List V}, DpAll K H vs (ns.map PyData.int) → vs = ns.map V.int
  | [], _, h => by
    cases h
    rfl
  | n :: ns, _, h => by
    cases h with
    | cons h1 h2 => rw [dp_int h1, dpAll_int h2, List.map_cons]
theorem dpAll_bool : ∀ {ns : List Bool} {vs : List V}, DpAll K H vs (ns.map PyData.bool) → vs = ns.map V.bl
  | [], _, h => by
    cases h
    rfl
  | n :: ns, _, h => by
    cases h with
    | cons h1 h2 => rw [dp_bool h1, dpAll_bool h2, List.map_cons]
theorem dp_tup {v : V} {ds : List PyData} (h : Dp K H v (.tuple ds)) : ∃ a xs, v = .ref a ∧ SqT K H a xs ∧ DpAll K H xs ds := by
  cases h with
  | tup h1 h2 => exact ⟨_, _, rfl, h1, h2⟩
theorem dp_lst {v : V} {ds : List PyData} (h : Dp K H v (.list ds)) : ∃ a xs, v = .ref a ∧ SqL K H a xs ∧ DpAll K H xs ds := by
  cases h with
  | lst h1 h2 => exact ⟨_, _, rfl, h1, h2⟩
/-- a tie as a value -/
theorem dp_pair {v : V} {d e : PyData} (h : Dp K H v (.tuple [d, e])) : ∃ a x y, v = .ref a ∧ SqT K H a [x, y] ∧ Dp K H x d ∧ Dp K H y e := by
  obtain ⟨a, xs, e1, h1, h2⟩ := dp_tup h
  cases h2 with
  | cons q1 q2 =>
    cases q2 with
    | cons q3 q4 =>
      cases q4
      exact ⟨a, _, _, e1, h1, q1, q3⟩
end

/-! ### what evaluates to what -/
def ED (T : List (Addr × Str)) (K : PySem.W.Frag) (te : TE) (σ : L2.St) (H : Hp) (d : PyData) : Prop := ∀ H1, Stp T H H1 → ∀ Q : VK, (∀ v H2, Stp T H1 H2 → Dp K H2 v d → Q v H2) → te σ H1 Q
/-- p is none of the lists that stand -/
def NewL (H : Hp) (p : Addr) : Prop := ∀ l xs, H l = some (.lst xs) → p ≠ l
theorem NewL.of {H : Hp} {p : Addr} (h : H p = none) : NewL H p := fun l xs e z => by
  subst z
  rw [h] at e
  cases e
theorem NewL.back {T : List (Addr × Str)} {H H' : Hp} {p : Addr} (e : Stp T H H') (h : NewL H' p) : NewL H p := fun l xs q => h l xs (e.lst q)
/-- a new list -/
def EL (T : List (Addr × Str)) (K : PySem.W.Frag) (te : TE) (σ : L2.St) (H : Hp) (ds : List PyData) : Prop := ∀ H1, Stp T H H1 → ∀ Q : VK, (∀ p xs H2, NewL H1 p → Stp T H1 H2 → H2 p = some (.lst xs) → DpAll K H2 xs ds → Q (.ref p) H2) → te σ H1 Q
def ET (T : List (Addr × Str)) (tt : TT) (σ : L2.St) (H : Hp) (b : Bool) : Prop := ∀ H1, Stp T H H1 → ∀ Q : Bool → Hp → Prop, (∀ H2, Stp T H1 H2 → Q b H2) → tt σ H1 Q
def EA (T : List (Addr × Str)) (K : PySem.W.Frag) (ta : TA) (σ : L2.St) (H : Hp) (ds : List PyData) : Prop := ∀ H1, Stp T H H1 → ∀ Q : List V → Hp → Prop, (∀ vs H2, Stp T H1 H2 → DpAll K H2 vs ds → Q vs H2) → ta σ H1 Q
/-- the promise of a def over data: the arguments' data, the answer's -/
def SpD (T : List (Addr × Str)) (K : PySem.W.Frag) (R : List PyData → PyData → Prop) : Sp := fun vs H Q _ => ∃ ds d, DpAll K H vs ds ∧ R ds d ∧ ∀ v H', Stp T H H' → Dp K H' v d → Q v H'
def SpL (T : List (Addr × Str)) (K : PySem.W.Frag) (R : List PyData → List PyData → Prop) : Sp := fun vs H Q _ => ∃ ds es, DpAll K H vs ds ∧ R ds es ∧ ∀ p xs H', NewL H p → Stp T H H' → H' p = some (.lst xs) → DpAll K H' xs es → Q (.ref p) H'
section
variable {T : List (Addr × Str)} {K : PySem.W.Frag} {σ : L2.St} {H H' : Hp} {ta tb te tx : TE} {t u : TT} {tas : TA} {x y z v : V} {d d1 d2 : PyData} {ds es : List PyData} {i j : Int} {a b : Bool} {ns : List Int}
theorem ED.mono (e : Stp T H H') (h : ED T K te σ H d) : ED T K te σ H' d := fun H1 a Q q => h H1 (e.trans a) Q q
theorem ET.mono (e : Stp T H H') (h : ET T t σ H b) : ET T t σ H' b := fun H1 a Q q => h H1 (e.trans a) Q q
theorem EL.mono (e : Stp T H H') (h : EL T K te σ H ds) : EL T K te σ H' ds := fun H1 a Q q => h H1 (e.trans a) Q q
theorem EA.mono (e : Stp T H H') (h : EA T K tas σ H ds) : EA T K tas σ H' ds := fun H1 a Q q => h H1 (e.trans a) Q q
theorem ED.is (h : ED T K te σ H d) (e : d = d1) : ED T K te σ H d1 := by
  rw [← e]
  exact h
theorem ET.is (h : ET T t σ H a) (e : a = b) : ET T t σ H b := by
  rw [← e]
  exact h
theorem EL.is (h : EL T K te σ H ds) (e : ds = es) : EL T K te σ H es := by
  rw [← e]
  exact h
theorem EL.ed (h : EL T K te σ H ds) : ED T K te σ H (.list ds) := fun H1 e Q q => h H1 e Q fun p xs H2 _ e2 h2 hd => q _ H2 e2 (.lst (.inl (.inl h2)) hd)
theorem ed_var {i : Nat} (h : σ[i]? = some (some v)) (hd : Dp K H v d) : ED T K (tVar i) σ H d := fun H1 e Q q => ⟨v, h, q v H1 (Stp.refl H1) (e.dp hd)⟩
theorem ed_int : ED T K (tC (.int i)) σ H (.int i) := fun H1 e Q q => q _ H1 (Stp.refl H1) (.int i)
theorem ed_bool : ED T K (tC (.bl b)) σ H (.bool b) := fun H1 e Q q => q _ H1 (Stp.refl H1) (.bl b)
theorem ea_nil : EA T K tNil σ H [] := fun H1 _ Q q => q [] H1 (Stp.refl H1) .nil
theorem ea_cons (h : ED T K te σ H d) (hr : EA T K tas σ H ds) : EA T K (tCons te tas) σ H (d :: ds) := fun H1 e Q q =>
  h H1 e _ fun v H2 e2 dv => hr H2 (e.trans e2) _ fun vs H3 e3 dvs => q _ H3 (e2.trans e3) (.cons (e3.dp dv) dvs)
theorem ea_one (h : ED T K te σ H d) : EA T K (tCons te tNil) σ H [d] := ea_cons h ea_nil
theorem sz_small {n : Nat} (h : n ≤ 100000) : n ≤ sizeLine := Nat.le_trans h (by decide)
theorem sz_smaller {n : Nat} (h : n < 100000) : n < sizeLine := Nat.lt_of_lt_of_le h (by decide)
theorem ed_tup (h : EA T K tas σ H ds) (hl : ds.length ≤ 100000) : ED T K (tTup tas) σ H (.tuple ds) := fun H1 e Q q =>
  h H1 e _ fun vs H2 e2 dvs => ⟨by rw [DpAll.length dvs]; exact sz_small hl, fun p hp => q _ _ (e2.upd hp) (.tup (.inl (.inl upd_same)) ((Stp.new (T := T) hp).dpAll dvs))⟩
theorem el_lst (h : EA T K tas σ H ds) (hl : ds.length ≤ 100000) : EL T K (tLst tas) σ H ds := fun H1 e Q q =>
  h H1 e _ fun vs H2 e2 dvs => ⟨by rw [DpAll.length dvs]; exact sz_small hl, fun p hp => q p vs _ (.back e2 (.of hp)) (e2.upd hp) upd_same ((Stp.new (T := T) hp).dpAll dvs)⟩
theorem ed_un_neg (h : ED T K te σ H (.int i)) : ED T K (tUn (rU fun i => .int (-i)) te) σ H (.int (-i)) := fun H1 e Q q =>
  h H1 e _ fun v H2 e2 dv => by
    rw [dp_int dv]
    exact ⟨i, rfl, q _ H2 e2 (.int _)⟩
theorem ed_I0 {g : Int → Int → V} (ha : ED T K ta σ H (.int i)) (hb : ED T K tb σ H (.int j)) (hg : ∀ H, Dp K H (g i j) d) : ED T K (tOp (rI0 g) ta tb) σ H d := fun H1 e Q q =>
  ha H1 e _ fun v H2 e2 dv => hb H2 (e.trans e2) _ fun w H3 e3 dw => by
    rw [dp_int dv, dp_int dw]
    exact ⟨i, j, rfl, rfl, q _ H3 (e2.trans e3) (hg H3)⟩
theorem ed_add (ha : ED T K ta σ H (.int i)) (hb : ED T K tb σ H (.int j)) : ED T K (tOp (rI0 fun i j => .int (i + j)) ta tb) σ H (.int (i + j)) := ed_I0 ha hb fun _ => .int _
theorem ed_sub (ha : ED T K ta σ H (.int i)) (hb : ED T K tb σ H (.int j)) : ED T K (tOp (rI0 fun i j => .int (i - j)) ta tb) σ H (.int (i - j)) := ed_I0 ha hb fun _ => .int _
theorem ed_lt (ha : ED T K ta σ H (.int i)) (hb : ED T K tb σ H (.int j)) : ED T K (tOp (rI0 fun i j => .bl (decide (i < j))) ta tb) σ H (.bool (decide (i < j))) := ed_I0 ha hb fun _ => .bl _
theorem ed_le (ha : ED T K ta σ H (.int i)) (hb : ED T K tb σ H (.int j)) : ED T K (tOp (rI0 fun i j => .bl (decide (i ≤ j))) ta tb) σ H (.bool (decide (i ≤ j))) := ed_I0 ha hb fun _ => .bl _
theorem ed_gt (ha : ED T K ta σ H (.int i)) (hb : ED T K tb σ H (.int j)) : ED T K (tOp (rI0 fun i j => .bl (decide (j < i))) ta tb) σ H (.bool (decide (j < i))) := ed_I0 ha hb fun _ => .bl _
theorem ed_ge (ha : ED T K ta σ H (.int i)) (hb : ED T K tb σ H (.int j)) : ED T K (tOp (rI0 fun i j => .bl (decide (j ≤ i))) ta tb) σ H (.bool (decide (j ≤ i))) := ed_I0 ha hb fun _ => .bl _
theorem ed_mod (ha : ED T K ta σ H (.int i)) (hb : ED T K tb σ H (.int j)) (h0 : 0 < j) : ED T K (tOp (rI (fun _ j => j ≠ 0) fun i j => .int (i.fmod j)) ta tb) σ H (.int (i % j)) := fun H1 e Q q =>
  ha H1 e _ fun v H2 e2 dv => hb H2 (e.trans e2) _ fun w H3 e3 dw => by
    rw [dp_int dv, dp_int dw]
    refine ⟨i, j, rfl, rfl, Int.ne_of_gt h0, ?_⟩
    show Q (.int (i.fmod j)) H3
    rw [Int.fmod_eq_emod_of_nonneg i (Int.le_of_lt h0)]
    exact q _ H3 (e2.trans e3) (.int _)
theorem ed_eqI (ha : ED T K ta σ H (.int i)) (hb : ED T K tb σ H (.int j)) : ED T K (tOp rEq ta tb) σ H (.bool (decide (i = j))) := fun H1 e Q q =>
  ha H1 e _ fun v H2 e2 dv => hb H2 (e.trans e2) _ fun w H3 e3 dw => by
    rw [dp_int dv, dp_int dw]
    refine ⟨rfl, ?_⟩
    have h : decide (V.int i = V.int j) = decide (i = j) := by
      by_cases c : i = j
      · rw [c, decide_eq_true rfl, decide_eq_true rfl]
      · rw [decide_eq_false c, decide_eq_false fun z => c (V.int.inj z)]
    rw [h]
    exact q _ H3 (e2.trans e3) (.bl _)
theorem ed_neI (ha : ED T K ta σ H (.int i)) (hb : ED T K tb σ H (.int j)) : ED T K (tOp rNe ta tb) σ H (.bool (!decide (i = j))) := fun H1 e Q q =>
  ha H1 e _ fun v H2 e2 dv => hb H2 (e.trans e2) _ fun w H3 e3 dw => by
    rw [dp_int dv, dp_int dw]
    refine ⟨rfl, ?_⟩
    have h : decide (V.int i = V.int j) = decide (i = j) := by
      by_cases c : i = j
      · rw [c, decide_eq_true rfl, decide_eq_true rfl]
      · rw [decide_eq_false c, decide_eq_false fun z => c (V.int.inj z)]
    rw [h]
    exact q _ H3 (e2.trans e3) (.bl _)
theorem ed_eqB (ha : ED T K ta σ H (.bool a)) (hb : ED T K tb σ H (.bool b)) : ED T K (tOp rEq ta tb) σ H (.bool (decide (a = b))) := fun H1 e Q q =>
  ha H1 e _ fun v H2 e2 dv => hb H2 (e.trans e2) _ fun w H3 e3 dw => by
    rw [dp_bool dv, dp_bool dw]
    refine ⟨rfl, ?_⟩
    have h : decide (V.bl a = V.bl b) = decide (a = b) := by
      cases a <;> cases b <;> decide
    rw [h]
    exact q _ H3 (e2.trans e3) (.bl _)
theorem ed_neB (ha : ED T K ta σ H (.bool a)) (hb : ED T K tb σ H (.bool b)) : ED T K (tOp rNe ta tb) σ H (.bool (!decide (a = b))) := fun H1 e Q q =>
  ha H1 e _ fun v H2 e2 dv => hb H2 (e.trans e2) _ fun w H3 e3 dw => by
    rw [dp_bool dv, dp_bool dw]
    refine ⟨rfl, ?_⟩
    have h : decide (V.bl a = V.bl b) = decide (a = b) := by
      cases a <;> cases b <;> decide
    rw [h]
    exact q _ H3 (e2.trans e3) (.bl _)
theorem inV_mem (i : Int) : ∀ ns : List Int, inV (.int i) (ns.map V.int) = decide (i ∈ ns)
  | [] => by simp [inV]
  | n :: ns => by
    have ih := inV_mem i ns
    unfold inV at ih ⊢
    rw [List.map_cons, List.any_cons, ih]
    show (n == i || decide (i ∈ ns)) = decide (i ∈ n :: ns)
    by_cases h : n = i
    · subst h
      simp
    · have h2 : ¬ i = n := fun z => h z.symm
      simp [h, h2]
theorem flat_ints : ∀ ns : List Int, (ns.map V.int).all flatV = true
  | [] => rfl
  | n :: ns => by
    rw [List.map_cons, List.all_cons, flat_ints ns]
    rfl
/-- a list or a tuple of ints -/
def SqD (ns : List Int) (d : PyData) : Prop := d = dLot ns ∨ d = dLs ns
theorem sqD_of {v : V} (h : SqD ns d) (hd : Dp K H v d) : ∃ p, v = .ref p ∧ (SqL K H p (ns.map V.int) ∨ SqT K H p (ns.map V.int)) := by
  rcases h with h | h
  · subst h
    obtain ⟨p, xs, e, h1, h2⟩ := dp_tup hd
    rw [dpAll_int h2] at h1
    exact ⟨p, e, .inr h1⟩
  · subst h
    obtain ⟨p, xs, e, h1, h2⟩ := dp_lst hd
    rw [dpAll_int h2] at h1
    exact ⟨p, e, .inl h1⟩
theorem ed_in (ha : ED T K ta σ H (.int i)) (hb : ED T K tb σ H d) (hs : SqD ns d) : ED T K (tOp (rIn K false) ta tb) σ H (.bool (decide (i ∈ ns))) := fun H1 e Q q =>
  ha H1 e _ fun v H2 e2 dv => hb H2 (e.trans e2) _ fun w H3 e3 dw => by
    obtain ⟨p, rfl, hp⟩ := sqD_of hs dw
    rw [dp_int dv]
    refine ⟨p, _, rfl, hp, rfl, flat_ints ns, ?_⟩
    rw [inV_mem]
    exact q _ H3 (e2.trans e3) (.bl _)
theorem ed_notin (ha : ED T K ta σ H (.int i)) (hb : ED T K tb σ H d) (hs : SqD ns d) : ED T K (tOp (rIn K true) ta tb) σ H (.bool (decide (i ∉ ns))) := fun H1 e Q q =>
  ha H1 e _ fun v H2 e2 dv => hb H2 (e.trans e2) _ fun w H3 e3 dw => by
    obtain ⟨p, rfl, hp⟩ := sqD_of hs dw
    rw [dp_int dv]
    refine ⟨p, _, rfl, hp, rfl, flat_ints ns, ?_⟩
    rw [inV_mem]
    have e4 : (if true = true then !decide (i ∈ ns) else decide (i ∈ ns)) = decide (i ∉ ns) := by simp
    rw [e4]
    exact q _ H3 (e2.trans e3) (.bl _)
theorem ed_ixT (ha : ED T K ta σ H (.tuple ds)) (hb : ED T K tb σ H (.int i)) (h0 : 0 ≤ i) (hd : ds[i.toNat]? = some d) : ED T K (tOp (rIxT K) ta tb) σ H d := fun H1 e Q q =>
  ha H1 e _ fun v H2 e2 dv => hb H2 (e.trans e2) _ fun w H3 e3 dw => by
    obtain ⟨p, xs, rfl, h1, h2⟩ := dp_tup (e3.dp dv)
    rw [dp_int dw]
    obtain ⟨x, hx, dx⟩ := DpAll.getD h2 hd
    exact ⟨p, xs, i, x, rfl, rfl, h1, at_of (by omega) hx, q x H3 (e2.trans e3) dx⟩
theorem ed_ixL (ha : ED T K ta σ H (.list ds)) (hb : ED T K tb σ H (.int i)) (h0 : 0 ≤ i) (hd : ds[i.toNat]? = some d) : ED T K (tOp (rIxL K) ta tb) σ H d := fun H1 e Q q =>
  ha H1 e _ fun v H2 e2 dv => hb H2 (e.trans e2) _ fun w H3 e3 dw => by
    obtain ⟨p, xs, rfl, h1, h2⟩ := dp_lst (e3.dp dv)
    rw [dp_int dw]
    obtain ⟨x, hx, dx⟩ := DpAll.getD h2 hd
    exact ⟨p, xs, i, x, rfl, rfl, h1, at_of (by omega) hx, q x H3 (e2.trans e3) dx⟩
abbrev rLenS (K : PySem.W.Frag) : List V → Hp → VK → Prop := fun xs H Q => ∃ p ys, xs = [.ref p] ∧ (SqL K H p ys ∨ SqT K H p ys) ∧ Q (.int ys.length) H
theorem ed_lenT (h : ED T K te σ H (.tuple ds)) : ED T K (tCB (rLenS K) (tCons te tNil)) σ H (.int ds.length) := fun H1 e Q q =>
  h H1 e _ fun v H2 e2 dv => by
    obtain ⟨p, xs, rfl, h1, h2⟩ := dp_tup dv
    exact ⟨p, xs, rfl, .inr h1, q _ H2 e2 (by rw [DpAll.length h2]; exact .int _)⟩
theorem ed_lenL (h : ED T K te σ H (.list ds)) : ED T K (tCB (rLenS K) (tCons te tNil)) σ H (.int ds.length) := fun H1 e Q q =>
  h H1 e _ fun v H2 e2 dv => by
    obtain ⟨p, xs, rfl, h1, h2⟩ := dp_lst dv
    exact ⟨p, xs, rfl, .inl h1, q _ H2 e2 (by rw [DpAll.length h2]; exact .int _)⟩
theorem ed_call {R : List PyData → PyData → Prop} {E : XK} (h : EA T K tas σ H ds) (hr : R ds d) : ED T K (tCall (SpD T K R) [] E tas) σ H d := fun H1 e Q q =>
  h H1 e _ fun vs H2 e2 dvs => ⟨ds, d, by rw [List.append_nil]; exact dvs, hr, fun v H3 e3 dv => q v H3 (e2.trans e3) dv⟩
theorem el_call {R : List PyData → List PyData → Prop} {E : XK} (h : EA T K tas σ H ds) (hr : R ds es) : EL T K (tCall (SpL T K R) [] E tas) σ H es := fun H1 e Q q =>
  h H1 e _ fun vs H2 e2 dvs => ⟨ds, es, by rw [List.append_nil]; exact dvs, hr, fun p xs H3 hp e3 h3 dv => q p xs H3 (.back e2 hp) (e2.trans e3) h3 dv⟩
theorem ed_min (h : ED T K te σ H (dLs ns)) (hne : ns ≠ []) : ED T K (tCB (rMin K) (tCons te tNil)) σ H (.int (minL ns)) := fun H1 e Q q =>
  h H1 e _ fun v H2 e2 dv => by
    obtain ⟨p, xs, rfl, h1, h2⟩ := dp_lst dv
    rw [dpAll_int h2] at h1
    refine ⟨p, ns, rfl, h1, List.length_pos_iff.mpr hne, fun m m1 m2 => ?_⟩
    rw [minL_uniq m1 m2]
    exact q _ H2 e2 (.int _)
theorem ed_minT (h : ED T K te σ H (dLot ns)) (hne : ns ≠ []) : ED T K (tCB (rMinT K) (tCons te tNil)) σ H (.int (minL ns)) := fun H1 e Q q =>
  h H1 e _ fun v H2 e2 dv => by
    obtain ⟨p, xs, rfl, h1, h2⟩ := dp_tup dv
    rw [dpAll_int h2] at h1
    refine ⟨p, ns, rfl, h1, List.length_pos_iff.mpr hne, fun m m1 m2 => ?_⟩
    rw [minL_uniq m1 m2]
    exact q _ H2 e2 (.int _)
theorem ed_all {bs : List Bool} (h : ED T K te σ H (.list (bs.map PyData.bool))) : ED T K (tCB (rAll K) (tCons te tNil)) σ H (.bool (bs.all id)) := fun H1 e Q q =>
  h H1 e _ fun v H2 e2 dv => by
    obtain ⟨p, xs, rfl, h1, h2⟩ := dp_lst dv
    rw [dpAll_bool h2] at h1
    exact ⟨p, bs, rfl, h1, q _ H2 e2 (.bl _)⟩
theorem ed_any {bs : List Bool} (h : ED T K te σ H (.list (bs.map PyData.bool))) : ED T K (tCB (rAny K) (tCons te tNil)) σ H (.bool (bs.any id)) := fun H1 e Q q =>
  h H1 e _ fun v H2 e2 dv => by
    obtain ⟨p, xs, rfl, h1, h2⟩ := dp_lst dv
    rw [dpAll_bool h2] at h1
    exact ⟨p, bs, rfl, h1, q _ H2 e2 (.bl _)⟩
/-- sorted(ints) -/
def sortI (ns : List Int) : List Int := ns.mergeSort fun a b => decide (a ≤ b)
theorem sortI_perm (ns : List Int) : (sortI ns).Perm ns := List.mergeSort_perm _ _
theorem sortI_sort (ns : List Int) : (sortI ns).Pairwise (· ≤ ·) := by
  have h := List.pairwise_mergeSort (le := fun (a b : Int) => decide (a ≤ b)) (fun a b c h1 h2 => by
    simp only [decide_eq_true_eq] at h1 h2 ⊢
    omega) (fun a b => by
    simp only [Bool.or_eq_true, decide_eq_true_eq]
    omega) ns
  exact h.imp fun q => by simpa using q
theorem sort_uniq : ∀ {l m : List Int}, l.Perm m → l.Pairwise (· ≤ ·) → m.Pairwise (· ≤ ·) → l = m
  | [], m, p, _, _ => (List.Perm.nil_eq p)
  | x :: l, [], p, _, _ => absurd p.length_eq (by simp)
  | x :: l, y :: m, p, h1, h2 => by
    obtain ⟨a1, a2⟩ := List.pairwise_cons.mp h1
    obtain ⟨b1, b2⟩ := List.pairwise_cons.mp h2
    have e : x = y := by
      have q1 : x ≤ y := by
        rcases List.mem_cons.mp (p.mem_iff.mpr (List.mem_cons_self (a := y) (l := m))) with z | z
        · omega
        · exact a1 y z
      have q2 : y ≤ x := by
        rcases List.mem_cons.mp (p.mem_iff.mp (List.mem_cons_self (a := x) (l := l))) with z | z
        · omega
        · exact b1 x z
      omega
    subst e
    rw [sort_uniq p.cons_inv a2 b2]
theorem el_sorted (h : ED T K te σ H (dLs ns)) (hn : ns.length < 64) : EL T K (tCB (rSorted K) (tCons te tNil)) σ H ((sortI ns).map PyData.int) := fun H1 e Q q =>
  h H1 e _ fun v H2 e2 dv => by
    obtain ⟨p, xs, rfl, h1, h2⟩ := dp_lst dv
    rw [dpAll_int h2] at h1
    refine ⟨p, ns, rfl, h1, hn, fun ns' p' hp ho hf => ?_⟩
    rw [sort_uniq (hp.trans (sortI_perm ns).symm) ho (sortI_sort ns)]
    exact q p' _ _ (.back e2 (.of hf)) (e2.upd hf) upd_same (dpAll_ints _)
theorem ed_tupleOf (h : ED T K te σ H (.list ds)) : ED T K (tThen te (kTup K)) σ H (.tuple ds) := fun H1 e Q q =>
  h H1 e _ fun v H2 e2 dv => by
    obtain ⟨p, xs, rfl, h1, h2⟩ := dp_lst dv
    exact .inl ⟨p, xs, rfl, h1, fun p' hp => q _ _ (e2.upd hp) (.tup (.inl (.inl upd_same)) ((Stp.new (T := T) hp).dpAll h2))⟩
abbrev rListS (K : PySem.W.Frag) : List V → Hp → VK → Prop := fun xs H Q => ∃ p ys, xs = [.ref p] ∧ (SqL K H p ys ∨ SqT K H p ys) ∧ ∀ l, H l = none → Q (.ref l) (upd H l (.lst ys))
theorem el_listOf (h : ED T K te σ H (.tuple ds)) : EL T K (tCB (rListS K) (tCons te tNil)) σ H ds := fun H1 e Q q =>
  h H1 e _ fun v H2 e2 dv => by
    obtain ⟨p, xs, rfl, h1, h2⟩ := dp_tup dv
    exact ⟨p, xs, rfl, .inr h1, fun p' hp => q _ _ _ (.back e2 (.of hp)) (e2.upd hp) upd_same ((Stp.new (T := T) hp).dpAll h2)⟩
theorem eqvAll_nil : ∀ ds : List PyData, PyData.eqvAll ds [] = ds.isEmpty
  | [] => rfl
  | _ :: _ => rfl
theorem shaped_nilT : SeqAt.shaped (.tuple []) = true := by decide
theorem shaped_nilL : SeqAt.shaped (.list []) = true := by decide
/-- x == (), x != () -/
theorem ed_eqNilT (h : ED T K te σ H (.tuple ds)) (hs : SeqAt.shaped (.tuple ds) = true) : ED T K (tOp (rEqD K) te (tTup tNil)) σ H (.bool ds.isEmpty) := fun H1 e Q q =>
  h H1 e _ fun v H2 e2 dv => (ed_tup (ds := []) ea_nil (by decide)) H2 (e.trans e2) _ fun w H3 e3 dw => ⟨_, _, e3.dp dv, dw, hs, shaped_nilT, q _ H3 (e2.trans e3) (by
    have h : PyData.eqv (.tuple ds) (.tuple []) = ds.isEmpty := eqvAll_nil ds
    rw [h]
    exact .bl _)⟩
theorem ed_neNilT (h : ED T K te σ H (.tuple ds)) (hs : SeqAt.shaped (.tuple ds) = true) : ED T K (tOp (rNeD K) te (tTup tNil)) σ H (.bool (!ds.isEmpty)) := fun H1 e Q q =>
  h H1 e _ fun v H2 e2 dv => (ed_tup (ds := []) ea_nil (by decide)) H2 (e.trans e2) _ fun w H3 e3 dw => ⟨_, _, e3.dp dv, dw, hs, shaped_nilT, q _ H3 (e2.trans e3) (by
    have h : PyData.eqv (.tuple ds) (.tuple []) = ds.isEmpty := eqvAll_nil ds
    rw [h]
    exact .bl _)⟩
theorem ed_eqNilL (h : ED T K te σ H (.list ds)) (hs : SeqAt.shaped (.list ds) = true) : ED T K (tOp (rEqD K) te (tLst tNil)) σ H (.bool ds.isEmpty) := fun H1 e Q q =>
  h H1 e _ fun v H2 e2 dv => (EL.ed (el_lst (ds := []) ea_nil (by decide))) H2 (e.trans e2) _ fun w H3 e3 dw => ⟨_, _, e3.dp dv, dw, hs, shaped_nilL, q _ H3 (e2.trans e3) (by
    have h : PyData.eqv (.list ds) (.list []) = ds.isEmpty := eqvAll_nil ds
    rw [h]
    exact .bl _)⟩
theorem ed_neNilL (h : ED T K te σ H (.list ds)) (hs : SeqAt.shaped (.list ds) = true) : ED T K (tOp (rNeD K) te (tLst tNil)) σ H (.bool (!ds.isEmpty)) := fun H1 e Q q =>
  h H1 e _ fun v H2 e2 dv => (EL.ed (el_lst (ds := []) ea_nil (by decide))) H2 (e.trans e2) _ fun w H3 e3 dw => ⟨_, _, e3.dp dv, dw, hs, shaped_nilL, q _ H3 (e2.trans e3) (by
    have h : PyData.eqv (.list ds) (.list []) = ds.isEmpty := eqvAll_nil ds
    rw [h]
    exact .bl _)⟩
theorem lay_ints : ∀ ns : List Int, PyData.canLayAll0 (ns.map PyData.int) = true
  | [] => rfl
  | n :: ns => by
    rw [List.map_cons]
    show (PyData.canLay0 (.int n) && PyData.canLayAll0 (ns.map PyData.int)) = true
    rw [lay_ints ns]
    rfl
theorem lay_lots : ∀ ls : List (List Int), PyData.canLayAll0 (ls.map dLot) = true
  | [] => rfl
  | n :: ns => by
    rw [List.map_cons]
    show (PyData.canLayAll0 (n.map PyData.int) && PyData.canLayAll0 (ns.map dLot)) = true
    rw [lay_lots ns, lay_ints]
    rfl
theorem dep_lots : ∀ ls : List (List Int), PyData.depthAll (ls.map dLot) ≤ 5
  | [] => by
    rw [List.map_nil]
    simp [PyData.depthAll]
  | n :: ns => by
    have h1 := dep_lots ns
    have h2 := PySem.W.depth_ints n
    rw [List.map_cons]
    simp only [PyData.depthAll, PyData.depth, h2]
    omega
theorem shaped_ints (ns : List Int) : SeqAt.shaped (dLot ns) = true ∧ SeqAt.shaped (dLs ns) = true := by
  have h := lay_ints ns
  have h2 := PySem.W.depth_ints ns
  unfold SeqAt.shaped
  simp [PyData.canLay0, PyData.depth, h, h2]
theorem shaped_lots (ls : List (List Int)) : SeqAt.shaped (dLots ls) = true ∧ SeqAt.shaped (dLotsL ls) = true := by
  have h := lay_lots ls
  have h2 := dep_lots ls
  unfold SeqAt.shaped
  constructor
  · simp only [PyData.canLay0, PyData.depth, h, Bool.true_and, decide_eq_true_eq]
    exact decide_eq_true (by omega)
  · simp only [PyData.canLay0, PyData.depth, h, Bool.true_and, decide_eq_true_eq]
    exact decide_eq_true (by omega)

theorem et_test (h : ED T K te σ H (.bool b)) : ET T (tTest te) σ H b := fun H1 e Q q => h H1 e _ fun v H2 e2 dv => ⟨b, dp_bool dv, q H2 e2⟩
theorem et_B (h : ED T K te σ H (.bool b)) : ET T (tB te) σ H b := fun H1 e Q q => h H1 e _ fun v H2 e2 dv => ⟨b, dp_bool dv, q H2 e2⟩
theorem et_yes : ET T tYes σ H true := fun H1 e Q q => q H1 (Stp.refl H1)
theorem et_and (h1 : ET T t σ H a) (h2 : a = true → ET T u σ H b) : ET T (tAnd t u) σ H (a && b) := fun H1 e Q q => h1 H1 e _ fun H2 e2 => by
  cases a with
  | true => exact h2 rfl H2 (e.trans e2) Q fun H3 e3 => q H3 (e2.trans e3)
  | false => exact q H2 e2
theorem et_or (h1 : ET T t σ H a) (h2 : a = false → ET T u σ H b) : ET T (tOr t u) σ H (a || b) := fun H1 e Q q => h1 H1 e _ fun H2 e2 => by
  cases a with
  | true => exact q H2 e2
  | false => exact h2 rfl H2 (e.trans e2) Q fun H3 e3 => q H3 (e2.trans e3)
theorem et_not (h : ET T t σ H a) : ET T (tNot t) σ H (!a) := fun H1 e Q q => h H1 e _ fun H2 e2 => q H2 e2
theorem ed_andV (h1 : ED T K ta σ H (.bool a)) (h2 : a = true → ED T K tb σ H (.bool b)) : ED T K (tAndV ta tb) σ H (.bool (a && b)) := fun H1 e Q q => h1 H1 e _ fun v H2 e2 dv => ⟨a, dp_bool dv, by
  cases a with
  | true => exact h2 rfl H2 (e.trans e2) Q fun w H3 e3 dw => q w H3 (e2.trans e3) dw
  | false => exact q _ H2 e2 (.bl _)⟩
theorem ed_orV (h1 : ED T K ta σ H (.bool a)) (h2 : a = false → ED T K tb σ H (.bool b)) : ED T K (tOrV ta tb) σ H (.bool (a || b)) := fun H1 e Q q => h1 H1 e _ fun v H2 e2 dv => ⟨a, dp_bool dv, by
  cases a with
  | true => exact q _ H2 e2 (.bl _)
  | false => exact h2 rfl H2 (e.trans e2) Q fun w H3 e3 dw => q w H3 (e2.trans e3) dw⟩
theorem ed_notV (h : ED T K ta σ H (.bool a)) : ED T K (tNotV ta) σ H (.bool (!a)) := fun H1 e Q q => h H1 e _ fun v H2 e2 dv => ⟨a, dp_bool dv, q _ H2 e2 (.bl _)⟩
theorem ed_if (h : ET T t σ H b) (h1 : b = true → ED T K ta σ H d) (h2 : b = false → ED T K tb σ H d) : ED T K (tIf t ta tb) σ H d := fun H1 e Q q => h H1 e _ fun H2 e2 => by
  cases b with
  | true => exact h1 rfl H2 (e.trans e2) Q fun v H3 e3 dv => q v H3 (e2.trans e3) dv
  | false => exact h2 rfl H2 (e.trans e2) Q fun v H3 e3 dv => q v H3 (e2.trans e3) dv
/-- a <= b <= c of ints -/
theorem ed_chainLe {tc : TE} {k : Int} (ha : ED T K ta σ H (.int i)) (hb : ED T K tb σ H (.int j)) (hc : ED T K tc σ H (.int k)) :
    ED T K (tChain (rI0 fun i j => .bl (decide (i ≤ j))) (rI0 fun i j => .bl (decide (i ≤ j))) ta tb tc) σ H (.bool (decide (i ≤ j) && decide (j ≤ k))) := fun H1 e Q q =>
  ha H1 e _ fun v H2 e2 dv => hb H2 (e.trans e2) _ fun w H3 e3 dw => by
    rw [dp_int dv, dp_int dw]
    refine ⟨i, j, rfl, rfl, decide (i ≤ j), rfl, ?_⟩
    by_cases c : i ≤ j
    · rw [decide_eq_true c, Bool.true_and] at q
      rw [decide_eq_true c]
      show tc σ H3 _
      exact hc H3 ((e.trans e2).trans e3) _ fun z H4 e4 dz => by
        rw [dp_int dz]
        exact ⟨j, k, rfl, rfl, q _ H4 ((e2.trans e3).trans e4) (.bl _)⟩
    · rw [decide_eq_false c, Bool.false_and] at q
      rw [decide_eq_false c]
      exact q _ H3 (e2.trans e3) (.bl _)
theorem tyx_tup {p : Addr} {xs : List V} (h : SqT K H p xs) : TyX K H (.ref p) (.type "tuple") := by
  rcases h with (h | ⟨o, h⟩) | ⟨o, _, _, h1, h2, _⟩
  · exact .base (.tup h)
  · exact .fTuple h
  · exact .kTuple h1 h2
theorem tyx_lst {p : Addr} {xs : List V} (h : SqL K H p xs) : TyX K H (.ref p) (.type "list") := by
  rcases h with (h | ⟨o, h⟩) | ⟨o, _, _, h1, h2, _⟩
  · exact .base (.lst h)
  · exact .base (.frz h)
  · exact .kList h1 h2
/-- the built-in class of a datum -/
def tyD : PyData → String
  | .tuple _ => "tuple"
  | .list _ => "list"
  | .int _ => "int"
  | .bool _ => "bool"
  | .str _ => "str"
  | .none => "NoneType"
  | .dict _ => "dict"
theorem tyx_of {v : V} : ∀ {d : PyData}, Dp K H v d → TyX K H v (.type (tyD d))
  | _, .non => .base .non
  | _, .bl b => .base (.bl b)
  | _, .int i => .base (.int i)
  | _, .str x => .base (.str x)
  | _, .lst h _ => tyx_lst h
  | _, .tup h _ => tyx_tup h
theorem ed_isi {n : String} (h : ED T K te σ H d) (hk : kitB (tyD d) n = some b) : ED T K (tCB (rIsi K) (tCons te (tCons (tC (.ty n)) tNil))) σ H (.bool b) := fun H1 e Q q =>
  h H1 e _ fun v H2 e2 dv => ⟨v, .ty n, _, _, b, rfl, .ty n, tyx_of dv, kit_ty hk, q _ H2 e2 (.bl b)⟩
/-- isinstance(x, (tuple, list)) -/
theorem ed_isiTL {b1 b2 : Bool} (h : ED T K te σ H d) (h1 : kitB (tyD d) "tuple" = some b1) (h2 : kitB (tyD d) "list" = some b2) :
    ED T K (tCB (rIsiT K) (tCons te (tCons (tTup (tCons (tC (.ty "tuple")) (tCons (tC (.ty "list")) tNil))) tNil))) σ H (.bool (b1 || b2)) := fun H1 e Q q =>
  h H1 e _ fun v H2 e2 dv => ⟨by show 2 ≤ sizeLine; decide, fun p hp => ⟨v, p, _, _, _, _, rfl, upd_same, .cons (.ty _) (.cons (.ty _) .nil), tyx_of ((Stp.new (T := T) hp).dp dv),
    kitAny_cons (kit_ty h1) (fun z => by
      subst z
      exact kitAny_cons (r := b2) (kit_ty h2) (fun z => by
        subst z
        exact kitAny_nil) (fun z => z)) (fun z => by subst z; rfl), q _ _ (e2.upd hp) (.bl _)⟩⟩
end
end Dw

/-! Comprehensions, loops, statements, calls: as data. -/
namespace Dw
open PySem PySem.Spec PyProof.Rows L2 LamX

/-! ### what is walked -/
def Yld (T : List (Addr × Str)) (K : PySem.W.Frag) (J : It) (H : Hp) (ds : List PyData) : Prop := ∀ H', Stp T H H' → ∀ i, (∀ d, ds[i]? = some d → J.go i H' ∧ ∀ x H'', J.yld i H' x H'' → Stp T H' H'' ∧ Dp K H'' x d) ∧ (ds[i]? = none → J.stop i H')
/-- whatever is done to lists meanwhile -/
def YldT (T : List (Addr × Str)) (K : PySem.W.Frag) (J : It) (H : Hp) (ds : List PyData) : Prop := ∀ H', Tk H H' → ∀ i, (∀ d, ds[i]? = some d → J.go i H' ∧ ∀ x H'', J.yld i H' x H'' → Stp T H' H'' ∧ Dp K H'' x d) ∧ (ds[i]? = none → J.stop i H')
theorem YldT.y {T : List (Addr × Str)} {K : PySem.W.Frag} {J : It} {H : Hp} {ds : List PyData} (h : YldT T K J H ds) : Yld T K J H ds := fun H' e => h H' e.tk
def EI (T : List (Addr × Str)) (K : PySem.W.Frag) (wi : TI) (σ : L2.St) (H : Hp) (ds : List PyData) : Prop := ∀ H1, Stp T H H1 → ∀ R : It → Hp → Prop, (∀ J H2, Stp T H1 H2 → Yld T K J H2 ds → R J H2) → wi σ H1 R
def EIT (T : List (Addr × Str)) (K : PySem.W.Frag) (wi : TI) (σ : L2.St) (H : Hp) (ds : List PyData) : Prop := ∀ H1, Stp T H H1 → ∀ R : It → Hp → Prop, (∀ J H2, Stp T H1 H2 → YldT T K J H2 ds → R J H2) → wi σ H1 R
section
variable {T : List (Addr × Str)} {K : PySem.W.Frag} {σ : L2.St} {H H' : Hp} {ta tb te tx : TE} {tt : TT} {tas : TA} {wi : TI} {d : PyData} {ds es : List PyData}
theorem EIT.i (h : EIT T K wi σ H ds) : EI T K wi σ H ds := fun H1 e R r => h H1 e R fun J H2 e2 y => r J H2 e2 y.y
theorem eit_tup (h : ED T K te σ H (.tuple ds)) (ht : tupOnlyAll ds = true) : EIT T K (iTup K te) σ H ds := fun H1 e R r =>
  h H1 e _ fun v H2 e2 dv => by
    obtain ⟨a, xs, rfl, h1, h2⟩ := dp_tup dv
    refine ⟨a, rfl, ⟨xs, h1⟩, r _ H2 e2 fun H' s i => ⟨fun d hd => ?_, fun hn => ?_⟩⟩
    · obtain ⟨x, hx, dx⟩ := DpAll.getD (s.dpAll ht h2) hd
      refine ⟨⟨xs, x, s.t h1, hx⟩, fun y H'' hy => ?_⟩
      obtain ⟨e3, hy⟩ := hy
      subst e3
      have e4 := hy xs (s.t h1)
      rw [hx] at e4
      cases e4
      exact ⟨Stp.refl _, dx⟩
    · exact ⟨xs, s.t h1, by
        rw [DpAll.length h2]
        exact List.getElem?_eq_none_iff.mp hn⟩
theorem ei_lst (h : ED T K te σ H (.list ds)) : EI T K (iList K te) σ H ds := fun H1 e R r =>
  h H1 e _ fun v H2 e2 dv => by
    obtain ⟨a, xs, rfl, h1, h2⟩ := dp_lst dv
    refine ⟨a, rfl, ⟨xs, h1⟩, r _ H2 e2 fun H' s i => ⟨fun d hd => ?_, fun hn => ?_⟩⟩
    · obtain ⟨x, hx, dx⟩ := DpAll.getD (s.dpAll h2) hd
      refine ⟨⟨xs, x, s.l h1, hx⟩, fun y H'' hy => ?_⟩
      obtain ⟨e3, hy⟩ := hy
      subst e3
      have e4 := hy xs (s.l h1)
      rw [hx] at e4
      cases e4
      exact ⟨Stp.refl _, dx⟩
    · exact ⟨xs, s.l h1, by
        rw [DpAll.length h2]
        exact List.getElem?_eq_none_iff.mp hn⟩
theorem ints_get {n : Nat} {i : Nat} : ((everyone n).map PyData.int)[i]? = if i < n then some (PyData.int (i : Int)) else none := by
  by_cases h : i < n
  · rw [if_pos h, List.getElem?_map, everyone_get h]
    rfl
  · rw [if_neg h, List.getElem?_map, List.getElem?_eq_none (by rw [everyone_len]; omega)]
    rfl
theorem eit_rng1 {n : Int} (h : EA T K tas σ H [.int n]) (h0 : 0 ≤ n) (h1 : n ≤ 40000) : EIT T K (iRng1 tas) σ H ((everyone n.toNat).map PyData.int) := fun H1 e R r =>
  h H1 e _ fun vs H2 e2 dv => by
    have ev : vs = [.int n] := dpAll_int (ns := [n]) dv
    subst ev
    refine ⟨n, rfl, by omega, by omega, r _ H2 e2 fun H' s i => ⟨fun d hd => ?_, fun hn => ?_⟩⟩
    · rw [ints_get] at hd
      by_cases hi : i < n.toNat
      · rw [if_pos hi] at hd
        cases hd
        refine ⟨hi, fun y H'' hy => ?_⟩
        obtain ⟨e3, hy⟩ := hy
        subst e3
        subst hy
        rw [Int.zero_add]
        exact ⟨Stp.refl _, .int _⟩
      · rw [if_neg hi] at hd
        cases hd
    · rw [ints_get] at hn
      by_cases hi : i < n.toNat
      · rw [if_pos hi] at hn
        cases hn
      · exact Nat.le_of_not_lt hi
def enumD (ds : List PyData) : List PyData := ds.mapIdx fun i d => .tuple [.int i, d]
theorem eit_enum (h : ED T K te σ H (.tuple ds)) (ht : tupOnlyAll ds = true) : EIT T K (iEnumT K (tCons te tNil)) σ H (enumD ds) := fun H1 e R r =>
  h H1 e _ fun v H2 e2 dv => by
    obtain ⟨a, xs, rfl, h1, h2⟩ := dp_tup dv
    refine ⟨a, xs, rfl, h1, r _ H2 e2 fun H' s i => ⟨fun d hd => ?_, fun hn => ?_⟩⟩
    · unfold enumD at hd
      rw [List.getElem?_mapIdx] at hd
      cases hq : ds[i]? with
      | none => rw [hq] at hd; cases hd
      | some d0 =>
        rw [hq] at hd
        cases hd
        obtain ⟨x, hx, dx⟩ := DpAll.getD (s.dpAll ht h2) hq
        refine ⟨⟨xs, x, s.t h1, hx⟩, fun y H'' hy => ?_⟩
        obtain ⟨q, x', rfl, hn, rfl, hy⟩ := hy
        have e4 := hy xs (s.t h1)
        rw [hx] at e4
        cases e4
        exact ⟨Stp.new hn, .tup (.inl (.inl upd_same)) (.cons (.int _) (.cons ((Stp.new (T := T) hn).dp dx) .nil))⟩
    · unfold enumD at hn
      rw [List.getElem?_mapIdx] at hn
      refine ⟨xs, s.t h1, ?_⟩
      rw [DpAll.length h2]
      cases hq : ds[i]? with
      | none => exact List.getElem?_eq_none_iff.mp hq
      | some d0 => rw [hq] at hn; cases hn
/-- zip of two tuples, the second not longer -/
theorem eit_zip (ha : ED T K ta σ H (.tuple ds)) (hb : ED T K tb σ H (.tuple es)) (h1 : tupOnlyAll ds = true) (h2 : tupOnlyAll es = true) : EIT T K (RZ.iZipA K (tCons ta (tCons tb tNil))) σ H ((ds.zip es).map fun p => .tuple [p.1, p.2]) := fun H1 e R r =>
  ha H1 e _ fun v H2 e2 dv => hb H2 (e.trans e2) _ fun w H3 e3 dw => by
    obtain ⟨a, xs, rfl, k1, k2⟩ := dp_tup (e3.dp dv)
    obtain ⟨b, ys, rfl, k3, k4⟩ := dp_tup dw
    refine ⟨a, b, xs, ys, rfl, .inr ⟨k1, k3, r _ H3 (e2.trans e3) fun H' s i => ⟨fun d hd => ?_, fun hn => ?_⟩⟩⟩
    · rw [List.getElem?_map] at hd
      cases hq : (ds.zip es)[i]? with
      | none => rw [hq] at hd; cases hd
      | some d0 =>
        rw [hq] at hd
        cases hd
        obtain ⟨q1, q2⟩ := List.getElem?_zip_eq_some.mp hq
        obtain ⟨x, hx, dx⟩ := DpAll.getD (s.dpAll h1 k2) q1
        obtain ⟨y, hy, dy⟩ := DpAll.getD (s.dpAll h2 k4) q2
        refine ⟨⟨xs, ys, x, y, s.t k1, s.t k3, hx, hy⟩, fun z H'' hz => ?_⟩
        obtain ⟨q, x', y', rfl, hn, rfl, z1, z2⟩ := hz
        have e4 := z1 xs (s.t k1)
        rw [hx] at e4
        cases e4
        have e5 := z2 ys (s.t k3)
        rw [hy] at e5
        cases e5
        exact ⟨Stp.new hn, .tup (.inl (.inl upd_same)) (.cons ((Stp.new (T := T) hn).dp dx) (.cons ((Stp.new (T := T) hn).dp dy) .nil))⟩
    · rw [List.getElem?_map] at hn
      refine ⟨xs, ys, s.t k1, s.t k3, ?_⟩
      rw [DpAll.length k2, DpAll.length k4]
      cases hq : (ds.zip es)[i]? with
      | some d0 => rw [hq] at hn; cases hn
      | none =>
        have h := List.getElem?_eq_none_iff.mp hq
        rw [List.length_zip] at h
        omega

/-! ### comprehensions -/
theorem el_lc {α : Type} {g : TG} {vs : List Nat} (as : List α) (enc : α → PyData) (f : α → Bool) (en : α → PyData) (B : α → L2.St → Hp → Prop) (hi : EI T K wi σ H (as.map enc)) (hz : as.length ≤ 40000)
    (hg : ∀ a ∈ as, ∀ v H1, Stp T H H1 → Dp K H1 v (enc a) → ∀ R : L2.St → Hp → Prop, (∀ σ2, wipe σ2 vs = wipe σ vs → B a σ2 H1 → R σ2 H1) → g v (wipe σ vs) H1 R)
    (ht : ∀ a ∈ as, ∀ σ2 H1, Stp T H H1 → B a σ2 H1 → ET T tt σ2 H1 (f a)) (he : ∀ a ∈ as, ∀ σ2 H1, Stp T H H1 → B a σ2 H1 → f a = true → ED T K te σ2 H1 (en a)) (hto : ∀ a, tupOnly (en a) = true) :
    EL T K (tLc wi g tt te vs) σ H ((as.filter f).map en) := fun H0 e0 Q q => hi H0 e0 _ fun J H1 e1 hy => fun Dl hD => by
  have e01 := e0.trans e1
  refine ⟨fun i m H' => i + m = as.length ∧ Stp T H1 H' ∧ ∃ xs, H' Dl = some (.lst xs) ∧ DpAll K H' xs (((as.take i).filter f).map en), ⟨as.length, by omega, .new hD, [], upd_same, .nil⟩, fun i m H' hW => ?_⟩
  obtain ⟨hm, s, xs, hx, hd⟩ := hW
  by_cases hlt : i < as.length
  · obtain ⟨go, yl⟩ := (hy H' s i).1 (enc as[i]) (by rw [List.getElem?_map, List.getElem?_eq_getElem hlt]; rfl)
    have mem : as[i] ∈ as := List.getElem_mem hlt
    refine .inr ⟨go, fun H' => i + 1 + (m - 1) = as.length ∧ Stp T H1 H' ∧ ∃ xs, H' Dl = some (.lst xs) ∧ DpAll K H' xs (((as.take (i + 1)).filter f).map en), fun H'' hn => ⟨m - 1, by omega, hn⟩, fun x H2 y => ?_⟩
    obtain ⟨s2, dx⟩ := yl x H2 y
    have s02 := e01.trans (s.trans s2)
    have tk1 : as.take (i + 1) = as.take i ++ [as[i]] := by rw [List.take_add_one, List.getElem?_eq_getElem hlt]; rfl
    refine hg _ mem x H2 s02 dx _ fun σ2 hw hb => ⟨hw, ht _ mem σ2 H2 s02 hb H2 (Stp.refl _) _ fun H3 s3 => ?_⟩
    cases hf : f as[i] with
    | true =>
      show te σ2 H3 _
      refine he _ mem σ2 H2 s02 hb hf H3 s3 _ fun y H4 s4 dy => ?_
      have s14 := s2.trans (s3.trans s4)
      have hx4 := s14.lst hx
      have k := tupOnlyAll_map hto ((as.take i).filter f)
      have tkm : Tk H4 (upd H4 Dl (.lst (xs ++ [y]))) := Tk.mut (LD.mut (LD.l hx4))
      refine ⟨xs, hx4, sz_smaller ?_, by omega, (s.trans s14).mut hD (LD.l hx4), xs ++ [y], upd_same, ?_⟩
      · have h1 := DpAll.length hd
        rw [List.length_map] at h1
        have h2 := List.length_filter_le f (as.take i)
        rw [List.length_take] at h2
        omega
      · rw [tk1, List.filter_append, List.map_append, List.filter_cons_of_pos hf]
        exact DpAll.snoc (tkm.dp (hto _) dy) (tkm.dpAll k (s14.dpAll hd))
    | false =>
      show _ ∧ _
      refine ⟨by omega, s.trans (s2.trans s3), xs, (s2.trans s3).lst hx, ?_⟩
      rw [tk1, List.filter_append, List.map_append, List.filter_cons_of_neg (by rw [hf]; decide)]
      simpa using (s2.trans s3).dpAll hd
  · have e : as.take i = as := List.take_of_length_le (by omega)
    rw [e] at hd
    exact .inl ⟨(hy H' s i).2 (by rw [List.getElem?_map, List.getElem?_eq_none (by omega)]; rfl), q Dl xs H' (.back e1 (.of hD)) (e1.trans s) hx hd⟩
/-- the target a name -/
theorem el_lc1 {α : Type} {j : Nat} {vs : List Nat} (as : List α) (enc : α → PyData) (f : α → Bool) (en : α → PyData) (hi : EI T K wi σ H (as.map enc)) (hz : as.length ≤ 40000) (hw : ∀ x, wipe ((wipe σ vs).set j (some x)) vs = wipe σ vs)
    (ht : ∀ a ∈ as, ∀ v H1, Stp T H H1 → Dp K H1 v (enc a) → ET T tt ((wipe σ vs).set j (some v)) H1 (f a)) (he : ∀ a ∈ as, ∀ v H1, Stp T H H1 → Dp K H1 v (enc a) → f a = true → ED T K te ((wipe σ vs).set j (some v)) H1 (en a)) (hto : ∀ a, tupOnly (en a) = true) :
    EL T K (tLc wi (gName j) tt te vs) σ H ((as.filter f).map en) :=
  el_lc as enc f en (fun a σ2 H1 => ∃ v, σ2 = (wipe σ vs).set j (some v) ∧ Dp K H1 v (enc a)) hi hz (fun a ha v H1 s dv R r => r _ (hw v) ⟨v, rfl, dv⟩)
    (fun a ha σ2 H1 s hb => by
      obtain ⟨v, rfl, dv⟩ := hb
      exact ht a ha v H1 s dv) (fun a ha σ2 H1 s hb hf => by
      obtain ⟨v, rfl, dv⟩ := hb
      exact he a ha v H1 s dv hf) hto
/-- no test -/
theorem el_lc1m {α : Type} {j : Nat} {vs : List Nat} (as : List α) (enc : α → PyData) (en : α → PyData) (hi : EI T K wi σ H (as.map enc)) (hz : as.length ≤ 40000) (hw : ∀ x, wipe ((wipe σ vs).set j (some x)) vs = wipe σ vs)
    (he : ∀ a ∈ as, ∀ v H1, Stp T H H1 → Dp K H1 v (enc a) → ED T K te ((wipe σ vs).set j (some v)) H1 (en a)) (hto : ∀ a, tupOnly (en a) = true) :
    EL T K (tLc wi (gName j) tYes te vs) σ H (as.map en) :=
  (el_lc1 as enc (fun _ => true) en hi hz hw (fun a ha v H1 s dv => et_yes) (fun a ha v H1 s dv _ => he a ha v H1 s dv) hto).is (by rw [List.filter_eq_self.mpr (fun _ _ => rfl)])
/-- the target a pair of names -/
theorem el_lc2 {α : Type} {j1 j2 : Nat} {vs : List Nat} (as : List α) (d1 d2 : α → PyData) (f : α → Bool) (en : α → PyData) (hi : EI T K wi σ H (as.map fun a => .tuple [d1 a, d2 a])) (hz : as.length ≤ 40000) (hw : ∀ x y, wipe (((wipe σ vs).set j1 (some x)).set j2 (some y)) vs = wipe σ vs)
    (ht : ∀ a ∈ as, ∀ v w H1, Stp T H H1 → Dp K H1 v (d1 a) → Dp K H1 w (d2 a) → ET T tt (((wipe σ vs).set j1 (some v)).set j2 (some w)) H1 (f a))
    (he : ∀ a ∈ as, ∀ v w H1, Stp T H H1 → Dp K H1 v (d1 a) → Dp K H1 w (d2 a) → f a = true → ED T K te (((wipe σ vs).set j1 (some v)).set j2 (some w)) H1 (en a)) (hto : ∀ a, tupOnly (en a) = true) :
    EL T K (tLc wi (gTup K 2 (gCons (gName j1) (gCons (gName j2) gNil))) tt te vs) σ H ((as.filter f).map en) :=
  el_lc as (fun a => .tuple [d1 a, d2 a]) f en (fun a σ2 H1 => ∃ v w, σ2 = ((wipe σ vs).set j1 (some v)).set j2 (some w) ∧ Dp K H1 v (d1 a) ∧ Dp K H1 w (d2 a)) hi hz (fun a ha v H1 s dv R r => by
      obtain ⟨p, x, y, rfl, h1, h2, h3⟩ := dp_pair dv
      exact ⟨p, [x, y], rfl, h1, rfl, x, [y], rfl, y, [], rfl, rfl, r _ (hw x y) ⟨x, y, rfl, h2, h3⟩⟩)
    (fun a ha σ2 H1 s hb => by
      obtain ⟨v, w, rfl, dv, dw⟩ := hb
      exact ht a ha v w H1 s dv dw) (fun a ha σ2 H1 s hb hf => by
      obtain ⟨v, w, rfl, dv, dw⟩ := hb
      exact he a ha v w H1 s dv dw hf) hto

/-! ### statements -/
variable {D : Ends} {tu tw : TS} {g : TG}
theorem s_asg {i : Nat} (h : ED T K te σ H d) (k : ∀ v H1, Stp T H H1 → Dp K H1 v d → D.nx (σ.set i (some v)) H1) : tAsg te (gName i) D σ H := h H (Stp.refl H) _ k
theorem s_ret (h : ED T K te σ H d) (k : ∀ v H1, Stp T H H1 → Dp K H1 v d → D.rt v H1) : tRet te D σ H := h H (Stp.refl H) _ k
theorem s_retL (h : EL T K te σ H ds) (k : ∀ p xs H1, NewL H p → Stp T H H1 → H1 p = some (.lst xs) → DpAll K H1 xs ds → D.rt (.ref p) H1) : tRet te D σ H := h H (Stp.refl H) _ k
theorem s_drop (h : ED T K te σ H d) (k : ∀ H1, Stp T H H1 → D.nx σ H1) : tDrop te D σ H := h H (Stp.refl H) _ fun v H1 e _ => k H1 e
theorem s_if {b : Bool} (h : ET T tt σ H b) (h1 : b = true → ∀ H1, Stp T H H1 → tu D σ H1) (h2 : b = false → ∀ H1, Stp T H H1 → tw D σ H1) : tIfS tt tu tw D σ H := h H (Stp.refl H) _ fun H1 e => by
  cases b with
  | true => exact h1 rfl H1 e
  | false => exact h2 rfl H1 e
/-- x.append(e) -/
theorem s_app {l : Addr} {xs : List V} (hl : H l = some (.lst xs)) (ha : ED T K ta σ H (.int 0) ∨ ∃ i, ta = tVar i ∧ σ[i]? = some (some (.ref l))) (h : ED T K te σ H d) (hz : xs.length < 100000) (k : ∀ v H1, Stp T H H1 → Dp K H1 v d → H1 l = some (.lst xs) → D.nx σ (upd H1 l (.lst (xs ++ [v])))) :
    (∃ i, ta = tVar i ∧ σ[i]? = some (some (.ref l))) → tDrop (tBM K "list" rAppend ta (tCons te tNil)) D σ H := fun ⟨i, e, hi⟩ => by
  subst e
  exact ⟨.ref l, hi, .inl ⟨rfl, xs, .inl (.inl hl)⟩, h H (Stp.refl H) _ fun v H1 e dv => ⟨l, xs, v, rfl, rfl, e.lst hl, sz_smaller hz, k v H1 e dv (e.lst hl)⟩⟩
/-- for over what yields data, whatever is done to lists meanwhile -/
theorem s_for (hi : EIT T K wi σ H ds) (Pv : Hp → Nat → L2.St → Hp → Prop) (h0 : ∀ H1, Stp T H H1 → Pv H1 0 σ H1) (hk : ∀ H1 i σ' H', Stp T H H1 → Pv H1 i σ' H' → Tk H1 H')
    (hs : ∀ H1 i d x σ' H' H'', Stp T H H1 → ds[i]? = some d → Pv H1 i σ' H' → Stp T H' H'' → Dp K H'' x d → g x σ' H'' fun σ2 H2 => tu { D with nx := Pv H1 (i + 1), ct := Pv H1 (i + 1), bk := D.nx } σ2 H2)
    (hd : ∀ H1 σ' H', Stp T H H1 → Pv H1 ds.length σ' H' → D.nx σ' H') : tFor wi g tu D σ H := hi H (Stp.refl H) _ fun J H1 e1 hy => by
  refine ⟨fun i m σ' H' => i + m = ds.length ∧ Pv H1 i σ' H', ⟨ds.length, by omega, h0 H1 e1⟩, fun i m σ' H' hW => ?_⟩
  obtain ⟨hm, hp⟩ := hW
  have tk := hk H1 i σ' H' e1 hp
  by_cases hlt : i < ds.length
  · obtain ⟨go, yl⟩ := (hy H' tk i).1 ds[i] (List.getElem?_eq_getElem hlt)
    refine .inr ⟨go, Pv H1 (i + 1), fun σ2 H2 hn => ⟨m - 1, by omega, by omega, hn⟩, fun x H2 y => ?_⟩
    obtain ⟨s2, dx⟩ := yl x H2 y
    exact hs H1 i _ x σ' H' H2 e1 (List.getElem?_eq_getElem hlt) hp s2 dx
  · have e : i = ds.length := by omega
    subst e
    exact .inl ⟨(hy H' tk _).2 (List.getElem?_eq_none (Nat.le_refl _)), hd H1 σ' H' e1 hp⟩
/-- for over a new list -/
theorem s_forL (hi : EL T K te σ H ds) (Pv : Addr → List V → Hp → Nat → L2.St → Hp → Prop) (h0 : ∀ p xs H1, NewL H p → Stp T H H1 → H1 p = some (.lst xs) → DpAll K H1 xs ds → Pv p xs H1 0 σ H1) (hk : ∀ p xs H1 i σ' H', Pv p xs H1 i σ' H' → H' p = some (.lst xs))
    (hs : ∀ p xs H1 i x d σ' H', Stp T H H1 → DpAll K H1 xs ds → xs[i]? = some x → ds[i]? = some d → Dp K H1 x d → Pv p xs H1 i σ' H' → g x σ' H' fun σ2 H2 => tu { D with nx := Pv p xs H1 (i + 1), ct := Pv p xs H1 (i + 1), bk := D.nx } σ2 H2)
    (hd : ∀ p xs H1 σ' H', Stp T H H1 → Pv p xs H1 ds.length σ' H' → D.nx σ' H') : tFor (iList K te) g tu D σ H := hi H (Stp.refl H) _ fun p xs H1 hp e1 hx dxs =>
  ⟨p, rfl, ⟨xs, .inl (.inl hx)⟩, for_list (xs := xs) (Pv p xs H1) (h0 p xs H1 hp e1 hx dxs) (fun i σ' H' _ h => .inl (.inl (hk p xs H1 i σ' H' h))) (fun i x σ' H' h2 h => by
    have hl := (List.getElem?_eq_some_iff.mp h2).1
    rw [DpAll.length dxs] at hl
    obtain ⟨x', hx', dx⟩ := DpAll.getD dxs (List.getElem?_eq_getElem hl)
    rw [h2] at hx'
    cases hx'
    exact hs p xs H1 i x _ σ' H' e1 dxs h2 (List.getElem?_eq_getElem hl) dx h) (fun σ' H' h => hd p xs H1 σ' H' e1 (by rw [← DpAll.length dxs]; exact h))⟩
/-- while, by a word that falls -/
theorem s_while (W : Nat → L2.St → Hp → Prop) (m0 : Nat) (h0 : W m0 σ H)
    (hs : ∀ m σ' H', W m σ' H' → ∃ b, ET T tt σ' H' b ∧ (b = true → ∀ H1, Stp T H' H1 → ∃ N : L2.St → Hp → Prop, (∀ σ2 H2, N σ2 H2 → ∃ m', m' < m ∧ W m' σ2 H2) ∧ tu { D with nx := N, ct := N, bk := D.nx } σ' H1) ∧ (b = false → ∀ H1, Stp T H' H1 → D.nx σ' H1)) : tWhile tt tu D σ H :=
  ⟨W, ⟨m0, h0⟩, fun m σ' H' hw => by
    obtain ⟨b, hb, h1, h2⟩ := hs m σ' H' hw
    refine hb H' (Stp.refl H') _ fun H1 e => ?_
    cases b with
    | true => exact h1 rfl H1 e
    | false => exact h2 rfl H1 e⟩
end

/-! ### defs that are called by their names -/
structure Cal (P : Program) (w : World) (K : PySem.W.Frag) (mg : Str → Option Value) (base : Heap) (k : Nat) (x : Str) (sp : Sp) : Prop where
  ex : ∃ (f : Addr) (fd : FuncData) (ps : List Str), FnOk P w K mg base CX0 k f fd ps sp ∧ mg x = some (.ref f) ∧ PySem.W.keepIn K (.ref f) = true ∧ Binds K fd ps []
theorem pe_k {X : Cx} {x : Str} {sp : Sp} {k j : Nat} {e : Expr} {es : List Expr} {t : TA} {p pos : Pos} (c : Cal X.prog X.w X.K X.mg X.base k x sp) (hr : Room j X.A) (hk : k ≤ j) (hg : Gl X x) (ha : PA X (e :: es) t) (hdb : (x == ("__debug__" : Str)) = false := by decide)
    (he : starEach (e :: es) X.env = (false, eval e X.env) :: starEach es X.env := by rfl) (hpl : (backTo pos (starEach es X.env)).any (·.1) = false := by rfl) : PE X (.Call (.Name x p) (e :: es) [] pos) (tCall sp [] E0 t) := by
  obtain ⟨f, fd, ps, F, hm, kp, b⟩ := c.ex
  exact pe_call F (hr.mono hk) hg hm kp b .nil pass0 ha hdb he hpl
/-- a def of the text behind the top, with its name's value and its binding -/
structure Dfn (K : PySem.W.Frag) (mg : Str → Option Value) (x : Str) (st : Stmt) (f : Addr) (fd : FuncData) (ps : List Str) : Prop where
  fn : Fun K x x st f fd
  mgf : mg x = some (.ref f)
  b : Binds K fd ps []
theorem Cal.of {P : Program} {w : World} {K : PySem.W.Frag} {mg : Str → Option Value} {base : Heap} {k : Nat} {x : Str} {st : Stmt} {f : Addr} {fd : FuncData} {ps : List Str} {sp : Sp} (F : Dfn K mg x st f fd ps) (h : FnOk P w K mg base CX0 k f fd ps sp) : Cal P w K mg base k x sp :=
  ⟨f, fd, ps, h, F.mgf, F.fn.kp, F.b⟩
/-- the built-in names that the text calls -/
structure Blt (mg : Str → Option Value) : Prop where
  len : mg "len" = none
  isinst : mg "isinstance" = none
  tuple : mg "tuple" = none
  list : mg "list" = none
  int : mg "int" = none
  bool : mg "bool" = none
  str : mg "str" = none
  range : mg "range" = none
  sorted : mg "sorted" = none
  min : mg "min" = none
  all : mg "all" = none
  any : mg "any" = none
  enumerate : mg "enumerate" = none
  zip : mg "zip" = none
theorem spD_len {T : List (Addr × Str)} {K : PySem.W.Frag} {R : List PyData → PyData → Prop} {n : Nat} (h : ∀ ds d, R ds d → ds.length = n) : ∀ vs H Q E, SpD T K R vs H Q E → vs.length = n := fun vs H Q E hs => by
  obtain ⟨ds, d, h1, h2, _⟩ := hs
  rw [DpAll.length h1]
  exact h ds d h2
theorem spL_len {T : List (Addr × Str)} {K : PySem.W.Frag} {R : List PyData → List PyData → Prop} {n : Nat} (h : ∀ ds d, R ds d → ds.length = n) : ∀ vs H Q E, SpL T K R vs H Q E → vs.length = n := fun vs H Q E hs => by
  obtain ⟨ds, d, h1, h2, _⟩ := hs
  rw [DpAll.length h1]
  exact h ds d h2
end Dw

/-! The text's defs by their places. -/
namespace Dw
open PySem PySem.Spec PyProof.Rows L2
def topS (i : Nat) : Stmt := PySem.Challenge.pw_duelwebs_k34_whole_numbers_lowered.main.body.getD i (.Pass ⟨0, 0, 0, 0⟩)
abbrev sIsInt : Stmt := topS 8
theorem scIsInt : FnScope ["value"] ["value"] (defScope sIsInt) := ⟨rfl, rfl, rfl, by decide +kernel, rfl, by decide +kernel, by decide +kernel⟩
abbrev sIsFrom : Stmt := topS 9
theorem scIsFrom : FnScope ["value", "least", "most"] ["value", "least", "most"] (defScope sIsFrom) := ⟨rfl, rfl, rfl, by decide +kernel, rfl, by decide +kernel, by decide +kernel⟩
abbrev sIsTie : Stmt := topS 10
theorem scIsTie : FnScope ["value", "many"] ["value", "many"] (defScope sIsTie) := ⟨rfl, rfl, rfl, by decide +kernel, rfl, by decide +kernel, by decide +kernel⟩
abbrev sNeedWeb : Stmt := topS 11
theorem scNeedWeb : FnScope ["value", "numbers", "ties", "index", "tie", "number"] ["value"] (defScope sNeedWeb) := ⟨rfl, rfl, rfl, by decide +kernel, rfl, by decide +kernel, by decide +kernel⟩
abbrev sEverybody : Stmt := topS 12
theorem scEverybody : FnScope ["web"] ["web"] (defScope sEverybody) := ⟨rfl, rfl, rfl, by decide +kernel, rfl, by decide +kernel, by decide +kernel⟩
abbrev sTiedTo : Stmt := topS 13
theorem scTiedTo : FnScope ["web", "person", "found", "one", "other"] ["web", "person"] (defScope sTiedTo) := ⟨rfl, rfl, rfl, by decide +kernel, rfl, by decide +kernel, by decide +kernel⟩
abbrev sHanging : Stmt := topS 14
theorem scHanging : FnScope ["web", "person", "lot", "found", "edge", "here", "other"] ["web", "person", "lot"] (defScope sHanging) := ⟨rfl, rfl, rfl, by decide +kernel, rfl, by decide +kernel, by decide +kernel⟩
abbrev sNeedLot : Stmt := topS 15
theorem scNeedLot : FnScope ["web", "value", "one", "a", "b"] ["web", "value"] (defScope sNeedLot) := ⟨rfl, rfl, rfl, by decide +kernel, rfl, by decide +kernel, by decide +kernel⟩
abbrev sPartsOf : Stmt := topS 16
theorem scPartsOf : FnScope ["web", "lot", "found", "left", "part", "one"] ["web", "lot"] (defScope sPartsOf) := ⟨rfl, rfl, rfl, by decide +kernel, rfl, by decide +kernel, by decide +kernel⟩
abbrev sOthers : Stmt := topS 17
theorem scOthers : FnScope ["web", "lot", "one"] ["web", "lot"] (defScope sOthers) := ⟨rfl, rfl, rfl, by decide +kernel, rfl, by decide +kernel, by decide +kernel⟩
abbrev sBorderOf : Stmt := topS 18
theorem scBorderOf : FnScope ["web", "part", "lot", "one", "other"] ["web", "part", "lot"] (defScope sBorderOf) := ⟨rfl, rfl, rfl, by decide +kernel, rfl, by decide +kernel, by decide +kernel⟩
abbrev sLeastOf : Stmt := topS 19
theorem scLeastOf : FnScope ["web", "lot", "one"] ["web", "lot"] (defScope sLeastOf) := ⟨rfl, rfl, rfl, by decide +kernel, rfl, by decide +kernel, by decide +kernel⟩
abbrev sLotsOf : Stmt := topS 20
theorem scLotsOf : FnScope ["many", "found", "person", "lot"] ["many"] (defScope sLotsOf) := ⟨rfl, rfl, rfl, by decide +kernel, rfl, by decide +kernel, by decide +kernel⟩
abbrev sIsDeep : Stmt := topS 22
theorem scIsDeep : FnScope ["web", "piece", "lot"] ["web", "piece", "lot"] (defScope sIsDeep) := ⟨rfl, rfl, rfl, by decide +kernel, rfl, by decide +kernel, by decide +kernel⟩
abbrev sDeepOf : Stmt := topS 23
theorem scDeepOf : FnScope ["web", "lot", "piece"] ["web", "lot"] (defScope sDeepOf) := ⟨rfl, rfl, rfl, by decide +kernel, rfl, by decide +kernel, by decide +kernel⟩
abbrev sCostOf : Stmt := topS 24
theorem scCostOf : FnScope ["web", "lot"] ["web", "lot"] (defScope sCostOf) := ⟨rfl, rfl, rfl, by decide +kernel, rfl, by decide +kernel, by decide +kernel⟩
abbrev sCost : Stmt := topS 25
theorem scCost : FnScope ["web", "lot"] ["web", "lot"] (defScope sCost) := ⟨rfl, rfl, rfl, by decide +kernel, rfl, by decide +kernel, by decide +kernel⟩
abbrev sFewestLowered : Stmt := topS 27
theorem scFewestLowered : FnScope ["web", "lot"] ["web", "lot"] (defScope sFewestLowered) := ⟨rfl, rfl, rfl, by decide +kernel, rfl, by decide +kernel, by decide +kernel⟩
abbrev sLeastLoweredOf : Stmt := topS 28
theorem scLeastLoweredOf : FnScope ["web", "lot", "deep", "some", "one", "piece"] ["web", "lot"] (defScope sLeastLoweredOf) := ⟨rfl, rfl, rfl, by decide +kernel, rfl, by decide +kernel, by decide +kernel⟩
abbrev sLeastLowered : Stmt := topS 29
theorem scLeastLowered : FnScope ["web", "lot"] ["web", "lot"] (defScope sLeastLowered) := ⟨rfl, rfl, rfl, by decide +kernel, rfl, by decide +kernel, by decide +kernel⟩
abbrev sLowered : Stmt := topS 30
theorem scLowered : FnScope ["web", "some", "low", "one", "number"] ["web", "some"] (defScope sLowered) := ⟨rfl, rfl, rfl, by decide +kernel, rfl, by decide +kernel, by decide +kernel⟩
abbrev sLawTaken : Stmt := topS 32
theorem scLawTaken : FnScope ["_law_row", "_law_many", "_law_found", "_law_cell"] ["_law_row", "_law_many"] (defScope sLawTaken) := ⟨rfl, rfl, rfl, by decide +kernel, rfl, by decide +kernel, by decide +kernel⟩
abbrev sLawAlike : Stmt := topS 33
theorem scLawAlike : FnScope ["_law_found", "_law_due", "_law_k"] ["_law_found", "_law_due"] (defScope sLawAlike) := ⟨rfl, rfl, rfl, by decide +kernel, rfl, by decide +kernel, by decide +kernel⟩
abbrev sLawWeb : Stmt := topS 34
theorem scLawWeb : FnScope ["_law_row", "_law_most", "_law_high", "_law_many", "_law_numbers", "_law_ties_here", "_law_person", "_law_turn", "_law_one"] ["_law_row", "_law_most", "_law_high"] (defScope sLawWeb) := ⟨rfl, rfl, rfl, by decide +kernel, rfl, by decide +kernel, by decide +kernel⟩
abbrev sLawTies : Stmt := topS 35
theorem scLawTies : FnScope ["_law_web_here", "_law_person", "_law_one", "_law_other"] ["_law_web_here", "_law_person"] (defScope sLawTies) := ⟨rfl, rfl, rfl, by decide +kernel, rfl, by decide +kernel, by decide +kernel⟩
abbrev sLawParts : Stmt := topS 36
theorem scLawParts : FnScope ["_law_web_here", "_law_lot_here", "_law_found", "_law_left", "_law_some", "_law_turn", "_law_one", "_law_other", "_law_person"] ["_law_web_here", "_law_lot_here"] (defScope sLawParts) := ⟨rfl, rfl, rfl, by decide +kernel, rfl, by decide +kernel, by decide +kernel⟩
abbrev sLawRest : Stmt := topS 37
theorem scLawRest : FnScope ["_law_web_here", "_law_lot_here", "_law_person"] ["_law_web_here", "_law_lot_here"] (defScope sLawRest) := ⟨rfl, rfl, rfl, by decide +kernel, rfl, by decide +kernel, by decide +kernel⟩
abbrev sLawBorder : Stmt := topS 38
theorem scLawBorder : FnScope ["_law_web_here", "_law_part", "_law_lot_here", "_law_one", "_law_other"] ["_law_web_here", "_law_part", "_law_lot_here"] (defScope sLawBorder) := ⟨rfl, rfl, rfl, by decide +kernel, rfl, by decide +kernel, by decide +kernel⟩
abbrev sLawDeep : Stmt := topS 39
theorem scLawDeep : FnScope ["_law_web_here", "_law_lot_here", "_law_found", "_law_piece", "_law_low", "_law_one"] ["_law_web_here", "_law_lot_here"] (defScope sLawDeep) := ⟨rfl, rfl, rfl, by decide +kernel, rfl, by decide +kernel, by decide +kernel⟩
abbrev sLawLots : Stmt := topS 40
theorem scLawLots : FnScope ["_law_many", "_law_found", "_law_person", "_law_lot_here", "_law_size"] ["_law_many"] (defScope sLawLots) := ⟨rfl, rfl, rfl, by decide +kernel, rfl, by decide +kernel, by decide +kernel⟩
abbrev sLawLot : Stmt := topS 41
theorem scLawLot : FnScope ["_law_row", "_law_many", "_law_found", "_law_person"] ["_law_row", "_law_many"] (defScope sLawLot) := ⟨rfl, rfl, rfl, by decide +kernel, rfl, by decide +kernel, by decide +kernel⟩
abbrev sLaw : Stmt := topS 42
theorem scLaw : FnScope ["_law_script", "_law_row", "_law_web_here", "_law_lot_here", "_law_low", "_law_good", "_law_some", "_law_numbers", "_law_one"] ["_law_script"] (defScope sLaw) := ⟨rfl, rfl, rfl, by decide +kernel, rfl, by decide +kernel, by decide +kernel⟩
end Dw

/-! is_int, is_from, is_tie, everybody, tied_to. -/
namespace Dw
open PySem PySem.Spec PyProof.Rows L2 LamX
def RIsInt : List PyData → PyData → Prop := fun ds d => ∃ i : Int, ds = [.int i] ∧ d = .bool true
def RIsFrom : List PyData → PyData → Prop := fun ds d => ∃ v lo hi : Int, ds = [.int v, .int lo, .int hi] ∧ d = .bool (decide (lo ≤ v) && decide (v ≤ hi))
def RIsTie : List PyData → PyData → Prop := fun ds d => ∃ (t : Int × Int) (n : Int), ds = [dTie t, .int n] ∧ d = .bool ((decide (0 ≤ t.1) && decide (t.1 ≤ n - 1)) && ((decide (0 ≤ t.2) && decide (t.2 ≤ n - 1)) && decide (t.1 < t.2)))
def REverybody : List PyData → PyData → Prop := fun ds d => ∃ (nums : List Int) (ts : Ties), ds = [dWeb nums ts] ∧ nums.length ≤ 1000 ∧ d = dLot (everyone nums.length)
def RTiedTo : List PyData → List PyData → Prop := fun ds es => ∃ (nums : List Int) (ts : Ties) (p : Int), ds = [dWeb nums ts, .int p] ∧ ts.length < 64 ∧ es = (sortI (nbr ts p)).map PyData.int
section
variable {P : Program} {w : World} {K : PySem.W.Frag} {mg : Str → Option Value} {base : Heap} {T : List (Addr × Str)} {f : Addr} {fd : FuncData}
theorem args1 {H : Hp} {vs : List V} {d : PyData} (h : DpAll K H vs [d]) : ∃ v, vs = [v] ∧ Dp K H v d := by
  cases h with
  | cons h1 h2 =>
    cases h2
    exact ⟨_, rfl, h1⟩
theorem args2 {H : Hp} {vs : List V} {d e : PyData} (h : DpAll K H vs [d, e]) : ∃ v x, vs = [v, x] ∧ Dp K H v d ∧ Dp K H x e := by
  cases h with
  | cons h1 h2 =>
    obtain ⟨x, rfl, h3⟩ := args1 h2
    exact ⟨_, _, rfl, h1, h3⟩
theorem args3 {H : Hp} {vs : List V} {d e g : PyData} (h : DpAll K H vs [d, e, g]) : ∃ v x y, vs = [v, x, y] ∧ Dp K H v d ∧ Dp K H x e ∧ Dp K H y g := by
  cases h with
  | cons h1 h2 =>
    obtain ⟨x, y, rfl, h3, h4⟩ := args2 h2
    exact ⟨_, _, _, rfl, h1, h3, h4⟩
theorem kit_ii : kitB "int" "int" = some true := by decide +kernel
theorem kit_ib : kitB "int" "bool" = some false := by decide +kernel
theorem kit_tt : kitB "tuple" "tuple" = some true := by decide +kernel
theorem ok_is_int (F : Dfn K mg "is_int" sIsInt f fd ["value"]) (B : Blt mg) : Cal P w K mg base 1 "is_int" (SpD T K RIsInt) := .of F (F.fn.ok scIsInt (spD_len (by rintro ds d ⟨i, rfl, _⟩; rfl)) fun cdv A outer s H vs Q E hr h => by
  obtain ⟨ds, d, hv, ⟨i, rfl, rfl⟩, q⟩ := h
  obtain ⟨v, rfl, dv⟩ := args1 hv
  refine ⟨_, (pss_one (ps_ret (pe_and (pe_callB (r := rIsi K) call_isi (by rfl) B.isinst PyProof.Rows.boot_isinstance (pa_cons (pv 0) (pa_cons (pe_bltn (v := .ty "int") (by rfl) B.int PyProof.Rows.boot_int rfl) pa_nil))) (pe_one (pe_not (pe_callB (r := rIsi K) call_isi (by rfl) B.isinst PyProof.Rows.boot_isinstance (pa_cons (pv 0) (pa_cons (pe_bltn (v := .ty "bool") (by rfl) B.bool PyProof.Rows.boot_bool rfl) pa_nil)))))))), ?_⟩
  refine s_ret (T := T) (K := K) (d := .bool (true && !false)) (ed_andV (ed_isi (d := .int i) (ed_var rfl dv) kit_ii) fun _ => ed_notV (ed_isi (d := .int i) (ed_var rfl dv) kit_ib)) fun v H1 e dv => q v H1 e dv)
theorem ok_is_from (F : Dfn K mg "is_from" sIsFrom f fd ["value", "least", "most"]) (B : Blt mg) (cIsInt : Cal P w K mg base 1 "is_int" (SpD T K RIsInt)) : Cal P w K mg base 2 "is_from" (SpD T K RIsFrom) := .of F (F.fn.ok scIsFrom (spD_len (by rintro ds d ⟨_, _, _, rfl, _⟩; rfl)) fun cdv A outer s H vs Q E hr h => by
  obtain ⟨ds, d, hv, ⟨i, lo, hi, rfl, rfl⟩, q⟩ := h
  obtain ⟨v, x, y, rfl, dv, dx, dy⟩ := args3 hv
  refine ⟨_, (pss_one (ps_ret (pe_and (pe_k cIsInt hr (by decide) (by rfl) (pa_cons (pv 0) pa_nil)) (pe_one (pe_chain op_le op_le (pv 1) (pv 0) (pv 2)))))), ?_⟩
  refine s_ret (T := T) (K := K) (d := .bool (true && (decide (lo ≤ i) && decide (i ≤ hi)))) (ed_andV (ed_call (ea_one (ed_var rfl dv)) ⟨i, rfl, rfl⟩) fun _ => ed_chainLe (ed_var rfl dx) (ed_var rfl dv) (ed_var rfl dy)) fun v H1 e dv => q v H1 e (by simpa using dv))
theorem ok_is_tie (F : Dfn K mg "is_tie" sIsTie f fd ["value", "many"]) (B : Blt mg) (cIsFrom : Cal P w K mg base 2 "is_from" (SpD T K RIsFrom)) : Cal P w K mg base 3 "is_tie" (SpD T K RIsTie) := .of F (F.fn.ok scIsTie (spD_len (by rintro ds d ⟨_, _, rfl, _⟩; rfl)) fun cdv A outer s H vs Q E hr h => by
  obtain ⟨ds, d, hv, ⟨t, n, rfl, rfl⟩, q⟩ := h
  obtain ⟨v, x, rfl, dv, dx⟩ := args2 hv
  refine ⟨_, (pss_cons (ps_if (PW.pt (pw_or (pt_not (pt_val (pe_callB (r := rIsi K) call_isi (by rfl) B.isinst PyProof.Rows.boot_isinstance (pa_cons (pv 0) (pa_cons (pe_bltn (v := .ty "tuple") (by rfl) B.tuple PyProof.Rows.boot_tuple rfl) pa_nil))))) (pw_or1 (pt_cmpR op_ne (pe_callB (r := rLenS K) call_len_seq (by rfl) B.len PySem.boot_len (pa_cons (pv 0) pa_nil)) pe_int (nomark _)))))
      (pss_one (ps_ret pe_bl))
      pss_nil)
    (pss_one (ps_ret (pe_and (pe_k cIsFrom hr (by decide) (by rfl) (pa_cons (pe_ix (r := rIxT K) ix_tup (pv 0) pe_int (fun _ _ => rfl)) (pa_cons pe_int (pa_cons (pe_op op_sub (pv 1) pe_int) pa_nil)))) (pe_and (pe_k cIsFrom hr (by decide) (by rfl) (pa_cons (pe_ix (r := rIxT K) ix_tup (pv 0) pe_int (fun _ _ => rfl)) (pa_cons pe_int (pa_cons (pe_op op_sub (pv 1) pe_int) pa_nil)))) (pe_one (pe_cmpR op_lt (pe_ix (r := rIxT K) ix_tup (pv 0) pe_int (fun _ _ => rfl)) (pe_ix (r := rIxT K) ix_tup (pv 0) pe_int (fun _ _ => rfl)) (nomark _)))))))), ?_⟩
  refine s_if (T := T) (b := !true || !decide ((2 : Int) = 2)) (et_or (et_not (et_B (ed_isi (K := K) (d := dTie t) (ed_var rfl dv) kit_tt))) fun _ => et_test (ed_neI (K := K) (ed_lenT (ds := [.int t.1, .int t.2]) (ed_var rfl dv)) ed_int)) (fun b => absurd b (by decide)) fun _ H1 e => ?_
  have dv1 := e.dp dv
  have dx1 := e.dp dx
  have h0 : ED T K (tOp (rIxT K) (tVar 0) (tC (.int 0))) [some v, some x] H1 (.int t.1) := ed_ixT (ds := [.int t.1, .int t.2]) (ed_var rfl dv1) ed_int (by decide) rfl
  have h1 : ED T K (tOp (rIxT K) (tVar 0) (tC (.int 1))) [some v, some x] H1 (.int t.2) := ed_ixT (ds := [.int t.1, .int t.2]) (ed_var rfl dv1) ed_int (by decide) rfl
  exact s_ret (T := T) (K := K) (ed_andV (ed_call (ea_cons h0 (ea_cons ed_int (ea_one (ed_sub (ed_var rfl dx1) ed_int)))) ⟨_, _, _, rfl, rfl⟩) fun _ =>
    ed_andV (ed_call (ea_cons h1 (ea_cons ed_int (ea_one (ed_sub (ed_var rfl dx1) ed_int)))) ⟨_, _, _, rfl, rfl⟩) fun _ => ed_lt h0 h1) fun v H2 e2 dv2 => q v H2 (e.trans e2) dv2)
theorem ed_web0 {te : TE} {σ : L2.St} {H : Hp} {nums : List Int} {ts : Ties} (h : ED T K te σ H (dWeb nums ts)) : ED T K (tOp (rIxT K) te (tC (.int 0))) σ H (dLot nums) := ed_ixT (ds := [dLot nums, dTies ts]) h ed_int (by decide) rfl
theorem ed_web1 {te : TE} {σ : L2.St} {H : Hp} {nums : List Int} {ts : Ties} (h : ED T K te σ H (dWeb nums ts)) : ED T K (tOp (rIxT K) te (tC (.int 1))) σ H (dTies ts) := ed_ixT (ds := [dLot nums, dTies ts]) h ed_int (by decide) rfl
theorem ed_lenLot {te : TE} {σ : L2.St} {H : Hp} {nums : List Int} (h : ED T K te σ H (dLot nums)) : ED T K (tCB (rLenS K) (tCons te tNil)) σ H (.int nums.length) := (ed_lenT h).is (by rw [List.length_map])
theorem ed_lenLs {te : TE} {σ : L2.St} {H : Hp} {nums : List Int} (h : ED T K te σ H (dLs nums)) : ED T K (tCB (rLenS K) (tCons te tNil)) σ H (.int nums.length) := (ed_lenL h).is (by rw [List.length_map])
theorem rgV_everyone (n : Nat) : rgV 0 (n : Int) = (everyone n).map V.int := by
  unfold rgV everyone
  rw [List.map_map]
  have e : ((n : Int) - 0).toNat = n := by omega
  rw [e]
  refine List.map_congr_left fun i _ => ?_
  show V.int (0 + (i : Int)) = V.int (i : Int)
  rw [Int.zero_add]
theorem ed_tupRg {te : TE} {σ : L2.St} {H : Hp} {n : Nat} (h : ED T K te σ H (.int n)) (hn : n ≤ 1000) : ED T K (tTupRg (tRg1 te)) σ H (dLot (everyone n)) := fun H1 e Q q => h H1 e _ fun v H2 e2 dv => by
  refine ⟨n, dp_int dv, RgOk.of_le (by omega) (by omega) (by omega) (by omega), fun p hp => ?_⟩
  rw [rgV_everyone]
  exact q _ _ (e2.upd hp) (.tup (.inl (.inl upd_same)) (dpAll_ints _))
theorem ok_everybody (F : Dfn K mg "everybody" sEverybody f fd ["web"]) (B : Blt mg) : Cal P w K mg base 1 "everybody" (SpD T K REverybody) := .of F (F.fn.ok scEverybody (spD_len (by rintro ds d ⟨_, _, rfl, _⟩; rfl)) fun cdv A outer s H vs Q E hr h => by
  obtain ⟨ds, d, hv, ⟨nums, ts, rfl, hl, rfl⟩, q⟩ := h
  obtain ⟨v, rfl, dv⟩ := args1 hv
  refine ⟨_, (pss_one (ps_ret (pe_tupRg rfl (by rfl) B.tuple (prg_1 (by rfl) B.range (pe_callB (r := rLenS K) call_len_seq (by rfl) B.len PySem.boot_len (pa_cons (pe_ix (r := rIxT K) ix_tup (pv 0) pe_int (fun _ _ => rfl)) pa_nil)))))), ?_⟩
  exact s_ret (T := T) (K := K) (ed_tupRg (ed_lenLot (ed_web0 (ed_var rfl dv))) hl) fun v H1 e dv => q v H1 e dv)
/-- x.append(e), x in a slot -/
theorem s_push {D : Ends} {σ : L2.St} {H : Hp} {i : Nat} {te : TE} {d : PyData} {l : Addr} {xs : List V} (hi : σ[i]? = some (some (.ref l))) (hl : H l = some (.lst xs)) (h : ED T K te σ H d) (hz : xs.length < 100000) (k : ∀ v H1, Stp T H H1 → Dp K H1 v d → H1 l = some (.lst xs) → D.nx σ (upd H1 l (.lst (xs ++ [v])))) :
    tDrop (tBM K "list" rAppend (tVar i) (tCons te tNil)) D σ H :=
  ⟨.ref l, hi, .inl ⟨rfl, xs, .inl (.inl hl)⟩, h H (Stp.refl H) _ fun v H1 e dv => ⟨l, xs, v, rfl, rfl, e.lst hl, sz_smaller hz, k v H1 e dv (e.lst hl)⟩⟩
/-- x = [] -/
theorem s_nil {D : Ends} {σ : L2.St} {H : Hp} {i : Nat} (k : ∀ l, H l = none → D.nx (σ.set i (some (.ref l))) (upd H l (.lst []))) : tAsg (tLst tNil) (gName i) D σ H := ⟨Nat.zero_le _, fun l hl => k l hl⟩
theorem ok_tied_to (F : Dfn K mg "tied_to" sTiedTo f fd ["web", "person"]) (B : Blt mg) : Cal P w K mg base 1 "tied_to" (SpL T K RTiedTo) := .of F (F.fn.ok scTiedTo (spL_len (by rintro ds d ⟨_, _, _, rfl, _⟩; rfl)) fun cdv A outer s H vs Q E hr h => by
  obtain ⟨ds, d, hv, ⟨nums, ts, p, rfl, hl, rfl⟩, q⟩ := h
  obtain ⟨v, x, rfl, dv, dx⟩ := args2 hv
  refine ⟨_, (pss_cons (ps_set (i := 2) scTiedTo.nd rfl (by first | exact .inl rfl | exact .inr rfl) (pe_lst pa_nil))
    (pss_cons (ps_for PassesOwn.never rfl (pi_tup (pe_ix (r := rIxT K) ix_tup (pv 0) pe_int (fun _ _ => rfl))) (pg_tup rfl (pgs_cons (pg_name (i := 3) scTiedTo.nd rfl (by first | exact .inl rfl | exact .inr rfl)) (pgs_cons (pg_name (i := 4) scTiedTo.nd rfl (by first | exact .inl rfl | exact .inr rfl)) pgs_nil)))
      (pss_one (ps_if (pt_cmpR (r := rIn K false) op_in_seq (pv 1) (pe_tup (pa_cons (pv 3) (pa_cons (pv 4) pa_nil))) (by rfl))
      (pss_one (ps_expr (pe_bm PySem.F.plainAttrs_list PySem.F.slot_list_append PySem.F.type_list_append mt_append (pv 2) (pa_cons (pe_op op_sub (pe_op op_add (pv 3) (pv 4)) (pv 1)) pa_nil))))
      pss_nil)))
    (pss_one (ps_ret (pe_callB (r := rSorted K) cr_sorted (by rfl) B.sorted PyProof.Rows.boot_sorted (pa_cons (pv 2) pa_nil)))))), ?_⟩
  refine s_nil (H := H) fun l nl => ?_
  have s0 : Stp T H (upd H l (.lst [])) := .new nl
  refine s_for (T := T) (K := K) (eit_tup (ed_web1 (nums := nums) (ts := ts) (ed_var rfl (s0.dp dv))) (to_ties ts)) (fun H1 i σ' H' => ∃ y3 y4, σ' = [some v, some x, some (.ref l), y3, y4] ∧ Stp T H H' ∧ Tk H1 H' ∧ H' l = some (.lst ((nbr (ts.take i) p).map V.int)))
    (fun H1 e => ⟨none, none, rfl, s0.trans e, Tk.refl _, e.lst upd_same⟩) (fun H1 i σ' H' e h => by
      obtain ⟨_, _, _, _, h, _⟩ := h
      exact h) (fun H1 i d0 x0 σ' H' H'' e hd hp s2 dx0 => ?_) fun H1 σ' H' e hp => ?_
  · obtain ⟨y3, y4, rfl, sH, tk, hl'⟩ := hp
    rw [List.getElem?_map] at hd
    cases hq : ts[i]? with
    | none => rw [hq] at hd; cases hd
    | some t =>
      rw [hq] at hd
      cases hd
      obtain ⟨a, z1, z2, rfl, ha, dz1, dz2⟩ := dp_pair dx0
      obtain rfl := dp_int dz1
      obtain rfl := dp_int dz2
      refine ⟨a, _, rfl, ha, rfl, _, _, rfl, _, _, rfl, rfl, ?_⟩
      have sx := sH.trans s2
      have dxp := sx.dp dx
      have hl2 := s2.lst hl'
      have tk2 : ts.take (i + 1) = ts.take i ++ [t] := by rw [List.take_add_one, hq]; rfl
      have hlen : (nbr (ts.take i) p).length ≤ 63 := by
        have h1 := nbr_len (ts.take i) p
        rw [List.length_take] at h1
        omega
      refine s_if (T := T) (b := decide (p ∈ [t.1, t.2])) (et_test (ed_in (K := K) (ns := [t.1, t.2]) (ed_var rfl dxp) (ed_tup (ea_cons (ed_var rfl (.int _)) (ea_one (ed_var rfl (.int _)))) (by show 2 ≤ 100000; decide)) (.inl rfl))) (fun hb H3 e3 => ?_) (fun hb H3 e3 => ?_)
      · refine s_push (T := T) (K := K) (d := .int (t.1 + t.2 - p)) rfl (e3.lst hl2) (ed_sub (ed_add (ed_var rfl (.int _)) (ed_var rfl (.int _))) (ed_var rfl (e3.dp dxp))) (by rw [List.length_map]; omega) fun vv H4 e4 dvv hl4 => ?_
        obtain rfl := dp_int dvv
        rw [decide_eq_true_eq] at hb
        refine ⟨_, _, rfl, (sx.trans (e3.trans e4)).mut nl (LD.l hl4), ((tk.trans (s2.trans (e3.trans e4)).tk).trans (Tk.mut (LD.mut (LD.l hl4)))), ?_⟩
        rw [upd_same, tk2, nbr_snoc, if_pos (by simpa [eq_comm] using hb), List.map_append]
        rfl
      · rw [decide_eq_false_iff_not] at hb
        refine ⟨_, _, rfl, sx.trans e3, tk.trans (s2.trans e3).tk, ?_⟩
        rw [tk2, nbr_snoc, if_neg (by simpa [eq_comm] using hb)]
        exact e3.lst hl2
  · obtain ⟨y3, y4, rfl, sH, tk, hl'⟩ := hp
    rw [List.length_map, List.take_length] at hl'
    refine s_retL (T := T) (K := K) (el_sorted (ns := nbr ts p) (ed_var rfl (.lst (.inl (.inl hl')) (dpAll_ints _))) (by have := nbr_len ts p; omega)) fun p' xs H1 np e h1 dxs => q p' xs H1 (.back sH np) (sH.trans e) h1 dxs)
end
end Dw

/-! hanging. -/
namespace Dw
open PySem PySem.Spec PyProof.Rows L2 LamX
def RHanging : List PyData → PyData → Prop := fun ds d => ∃ (nums : List Int) (ts : Ties) (p : Int) (lot : List Int) (dl : PyData), ds = [dWeb nums ts, .int p, dl] ∧ SqD lot dl ∧ lot.Pairwise (· < ·) ∧ p ∈ lot ∧ ts.length < 64 ∧ lot.length < 64 ∧ d = dLot (comp ts lot p)
section
variable {P : Program} {w : World} {K : PySem.W.Frag} {mg : Str → Option Value} {base : Heap} {T : List (Addr × Str)} {f : Addr} {fd : FuncData}
theorem dp_ls {H : Hp} {l : Addr} {ns : List Int} (h : H l = some (.lst (ns.map V.int))) : Dp K H (.ref l) (dLs ns) := .lst (.inl (.inl h)) (dpAll_ints ns)
theorem isEmpty_map {α β : Type} (f : α → β) : ∀ l : List α, (l.map f).isEmpty = l.isEmpty
  | [] => rfl
  | _ :: _ => rfl
theorem ok_hanging (F : Dfn K mg "hanging" sHanging f fd ["web", "person", "lot"]) (B : Blt mg) (cTiedTo : Cal P w K mg base 1 "tied_to" (SpL T K RTiedTo)) : Cal P w K mg base 2 "hanging" (SpD T K RHanging) := .of F (F.fn.ok scHanging (spD_len (by rintro ds d ⟨_, _, _, _, _, rfl, _⟩; rfl)) fun cdv A outer s H vs Q E hr h => by
  obtain ⟨ds, d, hv, ⟨nums, ts, p, lot, dl, rfl, hsd, hso, hp, htl, hll, rfl⟩, q⟩ := h
  obtain ⟨v, x, z, rfl, dv, dx, dz⟩ := args3 hv
  obtain rfl := dp_int dx
  refine ⟨_, (pss_cons (ps_par (i := 3) (j := 4) rfl scHanging.nd rfl rfl (by decide) rfl rfl (pa_cons (pe_lst (pa_cons (pv 1) pa_nil)) (pa_cons (pe_lst (pa_cons (pv 1) pa_nil)) pa_nil)) (by rfl))
    (pss_cons (ps_while PassesOwn.never (pt_cmpR (r := rNeD K) (op_neD hr.units) (pv 4) (pe_lst pa_nil) (nomark _))
      (pss_cons (ps_set (i := 5) scHanging.nd rfl (by first | exact .inl rfl | exact .inr rfl) (pe_bm0 PySem.F.plainAttrs_list PySem.F.slot_list_pop PySem.F.type_list_pop mt_pop (pv 4)))
    (pss_one (ps_for PassesOwn.never rfl (pi_list (pe_k cTiedTo hr (by decide) (by rfl) (pa_cons (pv 0) (pa_cons (pv 5) pa_nil)))) (pg_name (i := 6) scHanging.nd rfl (by first | exact .inl rfl | exact .inr rfl))
      (pss_one (ps_if (PW.pt (pw_and (pt_cmpR (r := rIn K false) op_in_seq (pv 6) (pv 2) (by rfl)) (pw_and1 (pt_cmpR (r := rIn K true) op_notIn_seq (pv 6) (pv 3) (by rfl)))))
      (pss_cons (ps_expr (pe_bm PySem.F.plainAttrs_list PySem.F.slot_list_append PySem.F.type_list_append mt_append (pv 3) (pa_cons (pv 6) pa_nil)))
    (pss_one (ps_expr (pe_bm PySem.F.plainAttrs_list PySem.F.slot_list_append PySem.F.type_list_append mt_append (pv 4) (pa_cons (pv 6) pa_nil)))))
      pss_nil))))))
    (pss_one (ps_ret (pe_tupleOf (by rfl) B.tuple (pe_callB (r := rSorted K) cr_sorted (by rfl) B.sorted PyProof.Rows.boot_sorted (pa_cons (pv 3) pa_nil))))))), ?_⟩
  refine ⟨.int p, rfl, by show 1 ≤ sizeLine; decide, fun lf nf => ⟨.int p, rfl, by show 1 ≤ sizeLine; decide, fun le ne => ⟨_, _, rfl, ?_⟩⟩⟩
  have hfe : le ≠ lf := fun e => by
    rw [e, upd_same] at ne
    cases ne
  have ne0 : H le = none := by rw [← ne, upd_ne hfe]
  have s0 : Stp T H (upd (upd H lf (.lst [.int p])) le (.lst [.int p])) := (Stp.new nf).upd ne
  refine s_while (T := T) (fun m σ' H' => ∃ (found edge : List Int) (y5 y6 : Option V), σ' = [some v, some (.int p), some z, some (.ref lf), some (.ref le), y5, y6] ∧ Stp T H H' ∧ H' lf = some (.lst (found.map V.int)) ∧ H' le = some (.lst (edge.map V.int)) ∧ DfsI ts lot p found edge ∧ edge.length ≤ found.length ∧ m + 2 * found.length = 2 * lot.length + edge.length)
    (2 * lot.length + 1 - 2) ⟨[p], [p], none, none, rfl, s0, by rw [upd_ne hfe.symm, upd_same]; rfl, upd_same, DfsI.start, Nat.le_refl _, by
      have : 0 < lot.length := List.length_pos_of_mem hp
      show 2 * lot.length + 1 - 2 + 2 * 1 = 2 * lot.length + 1
      omega⟩ fun m σ' H' hW => ?_
  obtain ⟨found, edge, y5, y6, rfl, sH, hf, he, hI, hef, hm⟩ := hW
  refine ⟨!(edge.map PyData.int).isEmpty, et_test (ed_neNilL (K := K) (ds := edge.map PyData.int) (ed_var rfl (dp_ls he)) (shaped_ints edge).2), fun hb H1 e1 => ?_, fun hb H1 e1 => ?_⟩
  · rw [isEmpty_map] at hb
    obtain ⟨e, here, rfl⟩ : ∃ e here, edge = e ++ [here] := by
      have hne : edge ≠ [] := fun z => by
        subst z
        cases hb
      exact ⟨edge.dropLast, edge.getLast hne, (List.dropLast_concat_getLast hne).symm⟩
    have hf1 := e1.lst hf
    have he1 := e1.lst he
    have sH1 := sH.trans e1
    refine ⟨fun σ2 H2 => ∃ m', m' < m ∧ ∃ (found edge : List Int) (y5 y6 : Option V), σ2 = [some v, some (.int p), some z, some (.ref lf), some (.ref le), y5, y6] ∧ Stp T H H2 ∧ H2 lf = some (.lst (found.map V.int)) ∧ H2 le = some (.lst (edge.map V.int)) ∧ DfsI ts lot p found edge ∧ edge.length ≤ found.length ∧ m' + 2 * found.length = 2 * lot.length + edge.length,
      fun _ _ h => h, ?_⟩
    refine ⟨.ref le, rfl, .inl ⟨rfl, _, .inl (.inl he1)⟩, le, (e ++ [here]).map V.int, .int here, rfl, rfl, he1, ?_, ?_⟩
    · rw [List.map_append, List.length_append, List.length_map]
      show (e.map V.int ++ [V.int here])[e.length + 1 - 1]? = _
      rw [List.getElem?_append_right (by rw [List.length_map]; omega), List.length_map]
      have : e.length + 1 - 1 - e.length = 0 := by omega
      rw [this]
      rfl
    · have hdl : ((e ++ [here]).map V.int).dropLast = e.map V.int := by
        rw [List.map_append]
        exact List.dropLast_concat
      have s2 : Stp T H (upd H1 le (.lst (e.map V.int))) := sH1.mut ne0 (LD.l he1)
      rw [hdl]
      refine s_forL (T := T) (K := K) (ds := (sortI (nbr ts here)).map PyData.int) (el_call (ea_cons (ed_var rfl (s2.dp dv)) (ea_one (ed_var rfl (.int here)))) ⟨nums, ts, here, rfl, htl, rfl⟩)
        (fun p' xs H3 i σ' H' => ∃ (found' edge' : List Int) (y6 : Option V), σ' = [some v, some (.int p), some z, some (.ref lf), some (.ref le), some (.int here), y6] ∧ Stp T H H' ∧ H' p' = some (.lst xs) ∧ p' ≠ lf ∧ p' ≠ le ∧ H' lf = some (.lst (found'.map V.int)) ∧ H' le = some (.lst (edge'.map V.int)) ∧
          DfsJ ts lot p here ((sortI (nbr ts here)).take i) found' edge' ∧ found.length ≤ found'.length ∧ edge'.length + found.length = e.length + found'.length)
        (fun p' xs H3 np e3 h3 dxs => ?_) (fun p' xs H3 i σ' H' hP => ?_) (fun p' xs H3 i x d σ' H' e3 dxs hx hd dx hP => ?_) (fun p' xs H3 σ' H' e3 hP => ?_)
      · have n1 : p' ≠ lf := np lf (found.map V.int) (by rw [upd_ne hfe.symm]; exact hf1)
        have n2 : p' ≠ le := np le (e.map V.int) upd_same
        exact ⟨found, e, y6, rfl, s2.trans e3, h3, n1, n2, e3.lst (by rw [upd_ne hfe.symm]; exact hf1), e3.lst upd_same, hI.pop, Nat.le_refl _, rfl⟩
      · obtain ⟨_, _, _, _, _, h, _⟩ := hP
        exact h
      · obtain ⟨found', edge', y6', rfl, sH', hp', n1, n2, hf', he', hJ, hgr, hlen⟩ := hP
        rw [List.getElem?_map] at hd
        cases hq : (sortI (nbr ts here))[i]? with
        | none => rw [hq] at hd; cases hd
        | some o =>
          rw [hq] at hd
          cases hd
          obtain rfl := dp_int dx
          have hadj : Adj ts here o := mem_nbr.mp ((sortI_perm _).mem_iff.mp (List.mem_of_getElem? hq))
          have tk2 : (sortI (nbr ts here)).take (i + 1) = (sortI (nbr ts here)).take i ++ [o] := by rw [List.take_add_one, hq]; rfl
          have hfl := hJ.len hp
          refine s_if (T := T) (b := decide (o ∈ lot) && decide (o ∉ found')) (et_and (et_test (ed_in (K := K) (ns := lot) (ed_var rfl (.int o)) (ed_var rfl (sH'.dp dz)) hsd)) fun _ => et_test (ed_notin (K := K) (ns := found') (ed_var rfl (.int o)) (ed_var rfl (dp_ls hf')) (.inr rfl))) (fun hb H4 e4 => ?_) (fun hb H4 e4 => ?_)
          · obtain ⟨b1, b2⟩ := Bool.and_eq_true_iff.mp hb
            rw [decide_eq_true_eq] at b1 b2
            have sH4 := sH'.trans e4
            have hel : edge'.length ≤ found'.length := by
              rw [List.length_append] at hef
              have h1 : ([here] : List Int).length = 1 := rfl
              omega
            refine s_push (T := T) (K := K) (d := .int o) (i := 3) (l := lf) rfl (e4.lst hf') (ed_var rfl (.int o)) (by rw [List.length_map]; omega) fun vv H5 e5 dvv hl5 => ?_
            obtain rfl := dp_int dvv
            have he5 := e5.lst (e4.lst he')
            refine s_push (T := T) (K := K) (d := .int o) (i := 4) (l := le) (xs := edge'.map V.int) rfl (by rw [upd_ne hfe]; exact he5) (ed_var rfl (.int o)) (by rw [List.length_map]; omega) fun vv H6 e6 dvv hl6 => ?_
            obtain rfl := dp_int dvv
            have s5 : Stp T H (upd H5 lf (.lst (found'.map V.int ++ [.int o]))) := (sH4.trans e5).mut nf (LD.l hl5)
            refine ⟨found' ++ [o], edge' ++ [o], _, rfl, (s5.trans e6).mut ne0 (LD.l hl6), ?_, n1, n2, ?_, ?_, ?_, ?_, ?_⟩
            · rw [upd_ne n2]
              refine e6.lst ?_
              rw [upd_ne n1]
              exact e5.lst (e4.lst hp')
            · rw [upd_ne hfe.symm]
              refine e6.lst ?_
              rw [upd_same, List.map_append]
              rfl
            · rw [upd_same, List.map_append]
              rfl
            · rw [tk2]
              exact hJ.add hadj b1 b2
            · rw [List.length_append]
              omega
            · rw [List.length_append, List.length_append]
              show edge'.length + 1 + found.length = e.length + (found'.length + 1)
              omega
          · have hb' : o ∈ lot → o ∈ found' := fun h1 => by
              rw [decide_eq_true h1, Bool.true_and, decide_eq_false_iff_not] at hb
              exact Classical.not_not.mp hb
            refine ⟨found', edge', _, rfl, sH'.trans e4, e4.lst hp', n1, n2, e4.lst hf', e4.lst he', ?_, hgr, hlen⟩
            rw [tk2]
            exact hJ.skip hb'
      · obtain ⟨found', edge', y6', rfl, sH', hp', n1, n2, hf', he', hJ, hgr, hlen⟩ := hP
        rw [List.length_map, List.take_length] at hJ
        have hfl := hJ.len hp
        have hfl0 := hI.len hp
        rw [List.length_append] at hm hef
        have h1 : ([here] : List Int).length = 1 := rfl
        exact ⟨2 * lot.length + edge'.length - 2 * found'.length, by omega, found', edge', _, _, rfl, sH', hf', he', hJ.fin fun y hy => (sortI_perm _).mem_iff.mpr (mem_nbr.mpr hy), by omega, by omega⟩
  · rw [isEmpty_map] at hb
    have he0 : edge = [] := by
      cases edge with
      | nil => rfl
      | cons a b => cases hb
    subst he0
    have hfl := hI.len hp
    refine s_ret (T := T) (K := K) (ed_tupleOf (el_sorted (ns := found) (ed_var rfl (dp_ls (e1.lst hf))) (by omega)).ed) fun vv H2 e2 dvv => q vv H2 ((sH.trans e1).trans e2) ?_
    rw [← hI.done hso hp (sortI_perm found) (sortI_sort found)]
    exact dvv)
end
end Dw

/-! others, parts_of, need_lot, need_web. -/
namespace Dw
open PySem PySem.Spec PyProof.Rows L2 LamX
def ROthers : List PyData → PyData → Prop := fun ds d => ∃ (nums : List Int) (ts : Ties) (lot : List Int), ds = [dWeb nums ts, dLot lot] ∧ nums.length ≤ 1000 ∧ d = dLot (rest nums.length lot)
def RPartsOf : List PyData → PyData → Prop := fun ds d => ∃ (nums : List Int) (ts : Ties) (lot : List Int), ds = [dWeb nums ts, dLot lot] ∧ lot.Pairwise (· < ·) ∧ ts.length < 64 ∧ lot.length < 64 ∧ d = dLots (parts ts lot)
def RNeedLot : List PyData → PyData → Prop := fun ds d => ∃ (nums : List Int) (ts : Ties) (lot : List Int), ds = [dWeb nums ts, dLot lot] ∧ Lot nums.length lot ∧ nums.length ≤ 7 ∧ d = .none
def RNeedWeb : List PyData → PyData → Prop := fun ds d => ∃ (nums : List Int) (ts : Ties), ds = [dWeb nums ts] ∧ Web nums ts ∧ d = .none
section
variable {P : Program} {w : World} {K : PySem.W.Frag} {mg : Str → Option Value} {base : Heap} {T : List (Addr × Str)} {f : Addr} {fd : FuncData}
theorem s_asgL {D : Ends} {te : TE} {σ : L2.St} {H : Hp} {i : Nat} {ds : List PyData} (h : EL T K te σ H ds) (k : ∀ p xs H1, NewL H p → Stp T H H1 → H1 p = some (.lst xs) → DpAll K H1 xs ds → D.nx (σ.set i (some (.ref p))) H1) : tAsg te (gName i) D σ H := h H (Stp.refl H) _ k
theorem ok_others (F : Dfn K mg "others" sOthers f fd ["web", "lot"]) (B : Blt mg) (cEverybody : Cal P w K mg base 1 "everybody" (SpD T K REverybody)) : Cal P w K mg base 2 "others" (SpD T K ROthers) := .of F (F.fn.ok scOthers (spD_len (by rintro ds d ⟨_, _, _, rfl, _⟩; rfl)) fun cdv A outer s H vs Q E hr h => by
  obtain ⟨ds, d, hv, ⟨nums, ts, lot, rfl, hn, rfl⟩, q⟩ := h
  obtain ⟨v, x, rfl, dv, dx⟩ := args2 hv
  refine ⟨_, (pss_one (ps_ret (pe_tupleOf (by rfl) B.tuple (pe_lc (own := [("one", 2)]) (wi := iTup K _) (g := (gName 2)) rfl scOthers.nd (pi_tup (pe_k cEverybody hr (by decide) (by rfl) (pa_cons (pv 0) pa_nil))) (blkOk_by (by first | decide +kernel | kernel_rfl | rfl)) (fun _ _ _ _ _ => (pg_name (i := 2) scOthers.nd rfl (by first | exact .inl rfl | exact .inr rfl))) (fun _ _ _ _ _ => (pts_one (pt_cmpR (r := rIn K true) op_notIn_seq (pv 2) (pv 1) (by rfl)))) (fun _ _ _ _ _ => (pv 2)))))), ?_⟩
  exact s_ret (T := T) (K := K) (ed_tupleOf (el_lc1 (everyone nums.length) PyData.int (fun x => decide (x ∉ lot)) PyData.int (eit_tup (ed_call (ea_one (ed_var rfl dv)) ⟨nums, ts, rfl, hn, rfl⟩) (tupOnlyAll_map to_int _)).i (by rw [everyone_len]; omega) (fun _ => rfl)
    (fun a ha y H1 e dy => et_test (ed_notin (ed_var rfl dy) (ed_var rfl (e.dp dx)) (.inl rfl))) (fun a ha y H1 e dy _ => ed_var rfl dy) to_int).ed) fun v H1 e dv => q v H1 e dv)
theorem ok_parts_of (F : Dfn K mg "parts_of" sPartsOf f fd ["web", "lot"]) (B : Blt mg) (cHanging : Cal P w K mg base 2 "hanging" (SpD T K RHanging)) : Cal P w K mg base 3 "parts_of" (SpD T K RPartsOf) := .of F (F.fn.ok scPartsOf (spD_len (by rintro ds d ⟨_, _, _, rfl, _⟩; rfl)) fun cdv A outer s H vs Q E hr h => by
  obtain ⟨ds, d, hv, ⟨nums, ts, lot, rfl, hso, htl, hll, rfl⟩, q⟩ := h
  obtain ⟨v, x, rfl, dv, dx⟩ := args2 hv
  refine ⟨_, (pss_cons (ps_par (i := 2) (j := 3) rfl scPartsOf.nd rfl rfl (by decide) rfl rfl (pa_cons (pe_lst pa_nil) (pa_cons (pe_callTy (r := rListS K) call_list_of (by rfl) B.list PyProof.Rows.boot_list (pa_cons (pv 1) pa_nil)) pa_nil)) (by rfl))
    (pss_cons (ps_while PassesOwn.never (pt_cmpR (r := rNeD K) (op_neD hr.units) (pv 3) (pe_lst pa_nil) (nomark _))
      (pss_cons (ps_set (i := 4) scPartsOf.nd rfl (by first | exact .inl rfl | exact .inr rfl) (pe_k cHanging hr (by decide) (by rfl) (pa_cons (pv 0) (pa_cons (pe_ix (r := rIxL K) ix_list (pv 3) pe_int (fun _ _ => rfl)) (pa_cons (pv 3) pa_nil)))))
    (pss_cons (ps_expr (pe_bm PySem.F.plainAttrs_list PySem.F.slot_list_append PySem.F.type_list_append mt_append (pv 2) (pa_cons (pv 4) pa_nil)))
    (pss_one (ps_setLc (i := 3) rfl scPartsOf.nd rfl rfl (sw_true rfl rfl rfl (by decide +kernel)) (own := [("one", 5)]) (wi := iList K _) (g := (gName 5)) (pi_list (pv 3)) (blkOk_by (by first | decide +kernel | kernel_rfl | rfl)) (fun _ _ _ _ _ => (pg_name (i := 5) scPartsOf.nd rfl (by first | exact .inl rfl | exact .inr rfl))) (fun _ _ _ _ _ => (pts_one (pt_cmpR (r := rIn K true) op_notIn_seq (pv 5) (pv 4) (by rfl)))) (fun _ _ _ _ _ => (pv 5)))))))
    (pss_one (ps_ret (pe_tupleOf (by rfl) B.tuple (pv 2)))))), ?_⟩
  refine ⟨Nat.zero_le _, fun lf nf => ?_⟩
  have s0 : Stp T H (upd H lf (.lst [])) := .new nf
  refine (el_listOf (T := T) (K := K) (σ := start ["web", "lot", "found", "left", "part", "one"] [v, x]) (ed_var (i := 1) rfl (s0.dp dx))) _ (Stp.refl _) _ fun ll xs H1 np e1 hl dxs => ?_
  obtain rfl := dpAll_int dxs
  refine ⟨_, _, rfl, ?_⟩
  refine s_while (T := T) (fun m σ' H' => ∃ (done : List (List Int)) (left : List Int) (ll : Addr) (xs : List V) (y4 y5 : Option V), σ' = [some v, some x, some (.ref lf), some (.ref ll), y4, y5] ∧ Stp T H H' ∧ ll ≠ lf ∧ H' lf = some (.lst xs) ∧ DpAll K H' xs (done.map dLot) ∧ H' ll = some (.lst (left.map V.int)) ∧
      done ++ parts ts left = parts ts lot ∧ left.Pairwise (· < ·) ∧ done.length + left.length ≤ lot.length ∧ m = left.length) lot.length ⟨[], lot, ll, [], none, none, rfl, s0.trans e1, np lf [] upd_same, e1.lst upd_same, .nil, hl, rfl, hso, by show 0 + lot.length ≤ lot.length; omega, rfl⟩ fun m σ' H' hW => ?_
  obtain ⟨done, left, ll, xs, y4, y5, rfl, sH, hne, hf, dxs, hl, hpa, hls, hlen, hm⟩ := hW
  refine ⟨!(left.map PyData.int).isEmpty, et_test (ed_neNilL (K := K) (ds := left.map PyData.int) (ed_var rfl (dp_ls hl)) (shaped_ints left).2), fun hb H1 e1 => ?_, fun hb H1 e1 => ?_⟩
  · rw [isEmpty_map] at hb
    obtain ⟨a, r, rfl⟩ : ∃ a r, left = a :: r := by
      cases left with
      | nil => cases hb
      | cons a r => exact ⟨a, r, rfl⟩
    have sH1 := sH.trans e1
    have hl1 := e1.lst hl
    rw [List.length_cons] at hlen hm
    refine ⟨fun σ2 H2 => ∃ m', m' < m ∧ ∃ (done : List (List Int)) (left : List Int) (ll : Addr) (xs : List V) (y4 y5 : Option V), σ2 = [some v, some x, some (.ref lf), some (.ref ll), y4, y5] ∧ Stp T H H2 ∧ ll ≠ lf ∧ H2 lf = some (.lst xs) ∧ DpAll K H2 xs (done.map dLot) ∧ H2 ll = some (.lst (left.map V.int)) ∧
      done ++ parts ts left = parts ts lot ∧ left.Pairwise (· < ·) ∧ done.length + left.length ≤ lot.length ∧ m' = left.length, fun _ _ h => h, ?_⟩
    refine s_asg (T := T) (K := K) (d := dLot (comp ts (a :: r) a)) (ed_call (ea_cons (ed_var rfl (sH1.dp dv)) (ea_cons (ed_ixL (ds := (a :: r).map PyData.int) (ed_var rfl (dp_ls hl1)) ed_int (by decide) rfl) (ea_one (ed_var rfl (dp_ls hl1))))) ⟨nums, ts, a, a :: r, _, rfl, .inr rfl, hls, List.mem_cons_self, htl, by rw [List.length_cons]; omega, rfl⟩) fun pv H2 e2 dp => ?_
    refine s_push (T := T) (K := K) (d := dLot (comp ts (a :: r) a)) (i := 2) (l := lf) rfl (e2.lst (e1.lst hf)) (ed_var (i := 4) rfl dp) (by
      have := DpAll.length dxs
      rw [List.length_map] at this
      omega) fun pv' H3 e3 dp' hl3 => ?_
    have s3 := sH1.trans (e2.trans e3)
    have s4 : Stp T H (upd H3 lf (.lst (xs ++ [pv']))) := s3.mut nf (LD.l hl3)
    have tkm : Tk H3 (upd H3 lf (.lst (xs ++ [pv']))) := Tk.mut (LD.mut (LD.l hl3))
    have hl4 : (upd H3 lf (.lst (xs ++ [pv']))) ll = some (.lst ((a :: r).map V.int)) := by
      rw [upd_ne hne]
      exact e3.lst (e2.lst hl1)
    refine s_asgL (T := T) (K := K) (ds := (without ts (a :: r) a).map PyData.int) (el_lc1 (a :: r) PyData.int (fun y => decide (y ∉ comp ts (a :: r) a)) PyData.int (ei_lst (ed_var (i := 3) rfl (dp_ls hl4))) (by rw [List.length_cons]; omega) (fun _ => rfl)
      (fun b hb y H5 e5 dy => et_test (ed_notin (ed_var rfl dy) (ed_var rfl (e5.dp (tkm.dp (to_lot _) (e3.dp dp)))) (.inl rfl))) (fun b hb y H5 e5 dy _ => ed_var rfl dy) to_int) fun p' ys H5 np' e5 h5 dys => ?_
    obtain rfl := dpAll_int dys
    have hwl := without_len (ts := ts) (x := a) (r := r)
    refine ⟨(without ts (a :: r) a).length, by omega, done ++ [comp ts (a :: r) a], without ts (a :: r) a, p', xs ++ [pv'], _, _, rfl, s4.trans e5, np' lf _ upd_same, e5.lst upd_same, ?_, h5, ?_, hls.filter _, ?_, rfl⟩
    · rw [List.map_append]
      exact DpAll.snoc (e5.dp (tkm.dp (to_lot _) dp')) (e5.dpAll (tkm.dpAll (tupOnlyAll_map to_lot _) ((e1.trans (e2.trans e3)).dpAll dxs)))
    · rw [List.append_assoc, List.singleton_append, ← parts_cons]
      exact hpa
    · rw [List.length_append]
      show done.length + 1 + _ ≤ _
      omega
  · rw [isEmpty_map] at hb
    have he0 : left = [] := by
      cases left with
      | nil => rfl
      | cons a b => cases hb
    subst he0
    rw [parts_nil, List.append_nil] at hpa
    subst hpa
    exact s_ret (T := T) (K := K) (ed_tupleOf (ed_var rfl (.lst (.inl (.inl (e1.lst hf))) (e1.dpAll dxs)))) fun vv H2 e2 dvv => q vv H2 ((sH.trans e1).trans e2) dvv)
theorem cut1 (xs : List V) : cutV xs (some 1) none = xs.drop 1 := by
  unfold cutV
  rw [show HT.sIx xs.length 0 (some 1) = min 1 xs.length from HT.sIx_nat xs.length 0 1, HT.sIx_none]
  cases xs with
  | nil => rfl
  | cons x r =>
    rw [show min 1 (x :: r).length = 1 by
      rw [List.length_cons]
      omega]
    show (List.take ((x :: r).length - 1) r) = r
    rw [List.length_cons, Nat.add_sub_cancel]
    exact List.take_length
theorem DpAll.drop {H : Hp} : ∀ (n : Nat) {xs : List V} {ds : List PyData}, DpAll K H xs ds → DpAll K H (xs.drop n) (ds.drop n)
  | 0, _, _, h => h
  | n + 1, _, _, .nil => .nil
  | n + 1, _, _, .cons _ h => DpAll.drop n h
/-- t[1:], t not empty -/
theorem ed_tail {te : TE} {σ : L2.St} {H : Hp} {ds : List PyData} (h : ED T K te σ H (.tuple ds)) (hne : ds ≠ []) : ED T K (tSl (rSlA K) te (tPart (tC (.int 1))) tNoPart) σ H (.tuple (ds.drop 1)) := fun H1 e Q q => h H1 e _ fun v H2 e2 dv => by
  obtain ⟨a, xs, rfl, h1, h2⟩ := dp_tup dv
  refine ⟨1, rfl, a, xs, rfl, h1, fun z => ?_, fun _ p hp => ?_⟩
  · have hl := DpAll.length h2
    have := List.length_pos_iff.mpr hne
    rw [show HT.sIx xs.length 0 (some 1) = min 1 xs.length from HT.sIx_nat xs.length 0 1] at z
    have := z.1
    omega
  · rw [cut1]
    exact q _ _ (e2.upd hp) (.tup (.inl (.inl upd_same)) ((Stp.new (T := T) hp).dpAll (DpAll.drop 1 h2)))
theorem all_true {α : Type} {f : α → Bool} : ∀ {l : List α}, (∀ a ∈ l, f a = true) → (l.map f).all id = true
  | [], _ => rfl
  | a :: l, h => by
    rw [List.map_cons, List.all_cons, all_true (fun b hb => h b (List.mem_cons_of_mem _ hb))]
    show (f a && true) = true
    rw [h a List.mem_cons_self]
    rfl
theorem any_false {α : Type} {f : α → Bool} : ∀ {l : List α}, (∀ a ∈ l, f a = false) → (l.map f).any id = false
  | [], _ => rfl
  | a :: l, h => by
    rw [List.map_cons, List.any_cons, any_false (fun b hb => h b (List.mem_cons_of_mem _ hb))]
    show (f a || false) = false
    rw [h a List.mem_cons_self]
    rfl
theorem map_bool {α : Type} (f : α → Bool) (l : List α) : l.map (fun a => PyData.bool (f a)) = (l.map f).map PyData.bool := by
  rw [List.map_map]
  rfl
/-- neighbours in a rising list -/
theorem zip_tail : ∀ {l : List Int}, l.Pairwise (· < ·) → ∀ p ∈ l.zip (l.drop 1), p.1 < p.2
  | [], _, p, hp => by simp at hp
  | [a], _, p, hp => by simp at hp
  | a :: b :: r, h, p, hp => by
    obtain ⟨h1, h2⟩ := List.pairwise_cons.mp h
    have e : (a :: b :: r).zip ((a :: b :: r).drop 1) = (a, b) :: (b :: r).zip ((b :: r).drop 1) := rfl
    rw [e] at hp
    rcases List.mem_cons.mp hp with q | q
    · subst q
      exact h1 b List.mem_cons_self
    · exact zip_tail h2 p q
theorem ok_need_lot (F : Dfn K mg "need_lot" sNeedLot f fd ["web", "value"]) (B : Blt mg) (cIsFrom : Cal P w K mg base 2 "is_from" (SpD T K RIsFrom)) : Cal P w K mg base 3 "need_lot" (SpD T K RNeedLot) := .of F (F.fn.ok scNeedLot (spD_len (by rintro ds d ⟨_, _, _, rfl, _⟩; rfl)) fun cdv A outer s H vs Q E hr h => by
  obtain ⟨ds, d, hv, ⟨nums, ts, lot, rfl, L, hn, rfl⟩, q⟩ := h
  obtain ⟨v, x, rfl, dv, dx⟩ := args2 hv
  refine ⟨_, (pss_cons (ps_if (PW.pt (pw_or (pt_not (pt_val (pe_callB (r := rIsi K) call_isi (by rfl) B.isinst PyProof.Rows.boot_isinstance (pa_cons (pv 1) (pa_cons (pe_bltn (v := .ty "tuple") (by rfl) B.tuple PyProof.Rows.boot_tuple rfl) pa_nil))))) (pw_or1 (pt_cmpR (r := rEqD K) (op_eqD hr.units) (pv 1) (pe_tup pa_nil) (nomark _)))))
      (pss_one ps_never)
      pss_nil)
    (pss_cons (ps_if (pt_not (pt_val (pe_callB (r := rAll K) (cr_all rfl) (by rfl) B.all PyProof.Rows.boot_all (pa_cons (pe_lc (own := [("one", 2)]) (wi := iTup K _) (g := (gName 2)) rfl scNeedLot.nd (pi_tup (pv 1)) (blkOk_by (by first | decide +kernel | kernel_rfl | rfl)) (fun _ _ _ _ _ => (pg_name (i := 2) scNeedLot.nd rfl (by first | exact .inl rfl | exact .inr rfl))) (fun _ _ _ _ _ => pts_nil) (fun _ _ _ _ _ => (pe_k cIsFrom hr (by decide) (by rfl) (pa_cons (pv 2) (pa_cons pe_int (pa_cons (pe_op op_sub (pe_callB (r := rLenS K) call_len_seq (by rfl) B.len PySem.boot_len (pa_cons (pe_ix (r := rIxT K) ix_tup (pv 0) pe_int (fun _ _ => rfl)) pa_nil)) pe_int) pa_nil)))))) pa_nil))))
      (pss_one ps_never)
      pss_nil)
    (pss_one (ps_if (pt_val (pe_callB (r := rAny K) (cr_any rfl) (by rfl) B.any PyProof.Rows.boot_any (pa_cons (pe_lc (own := [("a", 3), ("b", 4)]) (wi := RZ.iZipA K _) (g := (gTup K 2 (gCons (gName 3) (gCons (gName 4) gNil)))) rfl scNeedLot.nd (RZ.pi_zipA (by rfl) B.zip (pa_cons (pv 1) (pa_cons (pe_slice sl_tupA (pv 1) (po_some pe_int) po_none) pa_nil))) (blkOk_by (by first | decide +kernel | kernel_rfl | rfl)) (fun _ _ _ _ _ => (pg_tup rfl (pgs_cons (pg_name (i := 3) scNeedLot.nd rfl (by first | exact .inl rfl | exact .inr rfl)) (pgs_cons (pg_name (i := 4) scNeedLot.nd rfl (by first | exact .inl rfl | exact .inr rfl)) pgs_nil)))) (fun _ _ _ _ _ => pts_nil) (fun _ _ _ _ _ => (pe_cmpR op_ge (pv 3) (pv 4) (nomark _)))) pa_nil)))
      (pss_one ps_never)
      pss_nil)))), ?_⟩
  have hlen := L.len
  have hne : (lot.map PyData.int).isEmpty = false := by
    rw [isEmpty_map]
    cases h : lot with
    | nil => exact absurd h L.ne
    | cons a b => rfl
  refine s_if (T := T) (b := !true || (lot.map PyData.int).isEmpty) (et_or (et_not (et_B (ed_isi (K := K) (d := dLot lot) (ed_var rfl dx) kit_tt))) fun _ => et_test (ed_eqNilT (K := K) (ds := lot.map PyData.int) (ed_var rfl dx) (shaped_ints lot).1)) (fun b => by
    rw [hne] at b
    cases b) fun _ H1 e1 => ?_
  have dv1 := e1.dp dv
  have dx1 := e1.dp dx
  refine s_if (T := T) (b := !(lot.map fun a => decide (0 ≤ a) && decide (a ≤ (nums.length : Int) - 1)).all id) (et_not (et_B (ed_all (K := K) (bs := lot.map fun a => decide (0 ≤ a) && decide (a ≤ (nums.length : Int) - 1)) ((el_lc1m (T := T) (K := K) lot PyData.int (fun a => PyData.bool (decide (0 ≤ a) && decide (a ≤ (nums.length : Int) - 1))) (eit_tup (ed_var rfl dx1) (tupOnlyAll_map to_int _)).i (by omega) (fun _ => rfl)
    (fun a ha y H2 e2 dy => ed_call (ea_cons (ed_var rfl dy) (ea_cons ed_int (ea_one (ed_sub (ed_lenLot (ed_web0 (ed_var rfl (e2.dp dv1)))) ed_int)))) ⟨_, _, _, rfl, rfl⟩) (fun _ => rfl)).ed.is (by rw [map_bool]))))) (fun b => ?_) fun _ H2 e2 => ?_
  · rw [all_true (fun a ha => by
      have := L.mem a ha
      simp only [Bool.and_eq_true, decide_eq_true_eq]
      omega)] at b
    cases b
  · have dv2 := e2.dp dv1
    have dx2 := e2.dp dx1
    refine s_if (T := T) (b := ((lot.zip (lot.drop 1)).map fun p => decide (p.2 ≤ p.1)).any id) (et_B (ed_any (K := K) (bs := (lot.zip (lot.drop 1)).map fun p => decide (p.2 ≤ p.1)) ((el_lc2 (T := T) (K := K) (j1 := 3) (j2 := 4) (vs := [3, 4]) (lot.zip (lot.drop 1)) (fun p => PyData.int p.1) (fun p => PyData.int p.2) (fun _ => true) (fun p => PyData.bool (decide (p.2 ≤ p.1)))
      (by
        have h := (eit_zip (T := T) (K := K) (ta := tVar 1) (tb := tSl (rSlA K) (tVar 1) (tPart (tC (.int 1))) tNoPart) (σ := [some v, some x, none, none, none]) (H := H2) (ds := lot.map PyData.int) (es := (lot.map PyData.int).drop 1) (ed_var rfl dx2) (ed_tail (ed_var rfl dx2) (fun z => L.ne (List.map_eq_nil_iff.mp z))) (tupOnlyAll_map to_int _) (by
          rw [← List.map_drop]
          exact tupOnlyAll_map to_int _)).i
        have e : (((lot.map PyData.int).zip ((lot.map PyData.int).drop 1)).map fun p => PyData.tuple [p.1, p.2]) = (lot.zip (lot.drop 1)).map fun p => PyData.tuple [.int p.1, .int p.2] := by
          rw [← List.map_drop, List.zip_map, List.map_map]
          rfl
        rw [e] at h
        exact h) (by
        rw [List.length_zip]
        omega) (fun _ _ => rfl) (fun a ha y z H3 e3 dy dz => et_yes) (fun a ha y z H3 e3 dy dz _ => ed_ge (ed_var (i := 3) rfl dy) (ed_var (i := 4) rfl dz)) (fun _ => rfl)).ed.is (by
        rw [List.filter_eq_self.mpr (fun _ _ => rfl), map_bool])))) (fun b => ?_) fun _ H3 e3 => ?_
    · rw [any_false (fun p hp => by
      have := zip_tail L.asc p hp
      simp only [decide_eq_false_iff_not]
      omega)] at b
      cases b
    · exact q _ H3 (e1.trans (e2.trans e3)) .non)
end
end Dw

/-! need_web. -/
namespace Dw
open PySem PySem.Spec PyProof.Rows L2 LamX
/-- the ties of a web are few -/
theorem Web.tlen {nums : List Int} {ts : Ties} (W : Web nums ts) : ts.length < 64 := by
  have h1 : (ts.map fun t => 8 * t.1 + t.2).Pairwise (· < ·) := by
    rw [List.pairwise_map]
    refine W.asc.imp_of_mem fun {a b} ha hb h => ?_
    have := W.tie a ha
    have := W.tie b hb
    have := W.le
    omega
  have h2 := nodup_len (ssort_nodup h1) (m := everyone 63) fun x hx => by
    obtain ⟨t, ht, e⟩ := List.mem_map.mp hx
    have := W.tie t ht
    have := W.le
    exact everyone_mem.mpr (by omega)
  rw [everyone_len, List.length_map] at h2
  omega
section
variable {P : Program} {w : World} {K : PySem.W.Frag} {mg : Str → Option Value} {base : Heap} {T : List (Addr × Str)} {f : Addr} {fd : FuncData}
def tieLe (s t : Int × Int) : Bool := if s.1 = t.1 then (if s.2 = t.2 then true else decide (s.2 ≤ t.2)) else decide (s.1 ≤ t.1)
theorem ed_leTie {ta tb : TE} {σ : L2.St} {H : Hp} {s t : Int × Int} (ha : ED T K ta σ H (dTie s)) (hb : ED T K tb σ H (dTie t)) : ED T K (tOp (rLeT K) ta tb) σ H (.bool (tieLe s t)) := fun H1 e Q q =>
  ha H1 e _ fun v H2 e2 dv => hb H2 (e.trans e2) _ fun x H3 e3 dx => by
    obtain ⟨a, x1, x2, rfl, h1, d1, d2⟩ := dp_pair (e3.dp dv)
    obtain ⟨b, y1, y2, rfl, h2, d3, d4⟩ := dp_pair dx
    obtain rfl := dp_int d1
    obtain rfl := dp_int d2
    obtain rfl := dp_int d3
    obtain rfl := dp_int d4
    refine ⟨a, b, [s.1, s.2], [t.1, t.2], rfl, rfl, h1, h2, ?_⟩
    have e4 : (Ob.lexAt (fun j => decide (([s.1, s.2] : List Int).getD j 0 = ([t.1, t.2] : List Int).getD j 0)) (fun j => decide (([s.1, s.2] : List Int).getD j 0 ≤ ([t.1, t.2] : List Int).getD j 0)) (decide (([s.1, s.2] : List Int).length ≤ ([t.1, t.2] : List Int).length)) 0 (min ([s.1, s.2] : List Int).length ([t.1, t.2] : List Int).length)) = tieLe s t := by
      show Ob.lexAt _ _ _ 0 2 = _
      rw [Ob.lexAt_succ, Ob.lexAt_succ, Ob.lexAt_zero]
      unfold tieLe
      show (if decide (s.1 = t.1) = true then (if decide (s.2 = t.2) = true then true else decide (s.2 ≤ t.2)) else decide (s.1 ≤ t.1)) = _
      simp only [decide_eq_true_eq]
    rw [e4]
    exact q _ H3 (e2.trans e3) (.bl _)
theorem ok_need_web (F : Dfn K mg "need_web" sNeedWeb f fd ["value"]) (B : Blt mg) (mP : ∃ t, mg "MOST_PERSONS" = some (.int 8 t)) (mV : ∃ t, mg "MOST_VALUE" = some (.int 1000 t)) (cIsFrom : Cal P w K mg base 2 "is_from" (SpD T K RIsFrom)) (cIsTie : Cal P w K mg base 3 "is_tie" (SpD T K RIsTie))
    (cEverybody : Cal P w K mg base 1 "everybody" (SpD T K REverybody)) (cHanging : Cal P w K mg base 2 "hanging" (SpD T K RHanging)) : Cal P w K mg base 4 "need_web" (SpD T K RNeedWeb) := .of F (F.fn.ok scNeedWeb (spD_len (by rintro ds d ⟨_, _, rfl, _⟩; rfl)) fun cdv A outer s H vs Q E hr h => by
  obtain ⟨ds, d, hv, ⟨nums, ts, rfl, W, rfl⟩, q⟩ := h
  obtain ⟨v, rfl, dv⟩ := args1 hv
  obtain ⟨_, mP⟩ := mP
  obtain ⟨_, mV⟩ := mV
  refine ⟨_, (pss_cons (ps_if (PW.pt (pw_or (pt_not (pt_val (pe_callB (r := rIsi K) call_isi (by rfl) B.isinst PyProof.Rows.boot_isinstance (pa_cons (pv 0) (pa_cons (pe_bltn (v := .ty "tuple") (by rfl) B.tuple PyProof.Rows.boot_tuple rfl) pa_nil))))) (pw_or1 (pt_cmpR op_ne (pe_callB (r := rLenS K) call_len_seq (by rfl) B.len PySem.boot_len (pa_cons (pv 0) pa_nil)) pe_int (nomark _)))))
      (pss_one ps_never)
      pss_nil)
    (pss_cons (ps_asg (pv 0) (pg_tup rfl (pgs_cons (pg_name (i := 1) scNeedWeb.nd rfl (by first | exact .inl rfl | exact .inr rfl)) (pgs_cons (pg_name (i := 2) scNeedWeb.nd rfl (by first | exact .inl rfl | exact .inr rfl)) pgs_nil))))
    (pss_cons (ps_if (PW.pt (pw_or (pt_not (pt_val (pe_callB (r := rIsi K) call_isi (by rfl) B.isinst PyProof.Rows.boot_isinstance (pa_cons (pv 1) (pa_cons (pe_bltn (v := .ty "tuple") (by rfl) B.tuple PyProof.Rows.boot_tuple rfl) pa_nil))))) (pw_or (pt_not (pt_chain op_le op_le pe_int (pe_callB (r := rLenS K) call_len_seq (by rfl) B.len PySem.boot_len (pa_cons (pv 1) pa_nil)) (pe_glob (v := .int 8) (by rfl) mP ⟨_, rfl⟩))) (pw_or1 (pt_not (pt_val (pe_callB (r := rIsi K) call_isi (by rfl) B.isinst PyProof.Rows.boot_isinstance (pa_cons (pv 2) (pa_cons (pe_bltn (v := .ty "tuple") (by rfl) B.tuple PyProof.Rows.boot_tuple rfl) pa_nil)))))))))
      (pss_one ps_never)
      pss_nil)
    (pss_cons (ps_if (pt_not (pt_val (pe_callB (r := rAll K) (cr_all rfl) (by rfl) B.all PyProof.Rows.boot_all (pa_cons (pe_lc (own := [("number", 5)]) (wi := iTup K _) (g := (gName 5)) rfl scNeedWeb.nd (pi_tup (pv 1)) (blkOk_by (by first | decide +kernel | kernel_rfl | rfl)) (fun _ _ _ _ _ => (pg_name (i := 5) scNeedWeb.nd rfl (by first | exact .inl rfl | exact .inr rfl))) (fun _ _ _ _ _ => pts_nil) (fun _ _ _ _ _ => (pe_k cIsFrom hr (by decide) (by rfl) (pa_cons (pv 5) (pa_cons (pe_un un_neg (pe_glob (v := .int 1000) (by rfl) mV ⟨_, rfl⟩)) (pa_cons (pe_glob (v := .int 1000) (by rfl) mV ⟨_, rfl⟩) pa_nil)))))) pa_nil))))
      (pss_one ps_never)
      pss_nil)
    (pss_cons (ps_for PassesOwn.never rfl (pi_enumT (by rfl) B.enumerate (pa_cons (pv 2) pa_nil)) (pg_tup rfl (pgs_cons (pg_name (i := 3) scNeedWeb.nd rfl (by first | exact .inl rfl | exact .inr rfl)) (pgs_cons (pg_name (i := 4) scNeedWeb.nd rfl (by first | exact .inl rfl | exact .inr rfl)) pgs_nil)))
      (pss_one (ps_if (PW.pt (pw_or (pt_not (pt_val (pe_k cIsTie hr (by decide) (by rfl) (pa_cons (pv 4) (pa_cons (pe_callB (r := rLenS K) call_len_seq (by rfl) B.len PySem.boot_len (pa_cons (pv 1) pa_nil)) pa_nil))))) (pw_or1 (PW.pt (pw_and (pt_cmpR op_gt (pv 3) pe_int (nomark _)) (pw_and1 (pt_cmpR (r := rLeT K) (op_leT hr.units0) (pv 4) (pe_ix (r := rIxT K) ix_tup (pv 2) (pe_op op_sub (pv 3) pe_int) (fun _ _ => rfl)) (nomark _))))))))
      (pss_one ps_never)
      pss_nil)))
    (pss_one (ps_if (pt_cmpR op_lt (pe_callB (r := rLenS K) call_len_seq (by rfl) B.len PySem.boot_len (pa_cons (pe_k cHanging hr (by decide) (by rfl) (pa_cons (pv 0) (pa_cons pe_int (pa_cons (pe_k cEverybody hr (by decide) (by rfl) (pa_cons (pv 0) pa_nil)) pa_nil)))) pa_nil)) (pe_callB (r := rLenS K) call_len_seq (by rfl) B.len PySem.boot_len (pa_cons (pv 1) pa_nil)) (nomark _))
      (pss_one ps_never)
      pss_nil))))))), ?_⟩
  have htl := W.tlen
  have hle := W.le
  have hpos := W.pos
  refine s_if (T := T) (b := !true || !decide ((2 : Int) = 2)) (et_or (et_not (et_B (ed_isi (K := K) (d := dWeb nums ts) (ed_var rfl dv) kit_tt))) fun _ => et_test (ed_neI (K := K) (ed_lenT (ds := [dLot nums, dTies ts]) (ed_var rfl dv)) ed_int)) (fun b => absurd b (by decide)) fun _ H1 e1 => ?_
  obtain ⟨a, n, t, rfl, hS, dn, dt⟩ := dp_pair (e1.dp dv)
  refine ⟨_, rfl, a, [n, t], rfl, hS, rfl, n, [t], rfl, t, [], rfl, rfl, ?_⟩
  refine s_if (T := T) (b := !true || (!(decide ((1 : Int) ≤ nums.length) && decide ((nums.length : Int) ≤ 8)) || !true)) (et_or (et_not (et_B (ed_isi (K := K) (d := dLot nums) (ed_var rfl dn) kit_tt))) fun _ => et_or (et_not (et_test (ed_chainLe (K := K) ed_int (ed_lenLot (ed_var rfl dn)) ed_int))) fun _ => et_not (et_B (ed_isi (K := K) (d := dTies ts) (ed_var rfl dt) kit_tt)))
    (fun b => by
      have h1 : decide ((1 : Int) ≤ nums.length) = true := decide_eq_true (by omega)
      have h2 : decide ((nums.length : Int) ≤ 8) = true := decide_eq_true (by omega)
      rw [h1, h2] at b
      cases b) fun _ H2 e2 => ?_
  have dn2 := e2.dp dn
  have dt2 := e2.dp dt
  refine s_if (T := T) (b := !(nums.map fun a => decide (-1000 ≤ a) && decide (a ≤ 1000)).all id) (et_not (et_B (ed_all (K := K) (bs := nums.map fun a => decide (-1000 ≤ a) && decide (a ≤ 1000)) ((el_lc1m (T := T) (K := K) nums PyData.int (fun a => PyData.bool (decide (-1000 ≤ a) && decide (a ≤ 1000))) (eit_tup (ed_var rfl dn2) (tupOnlyAll_map to_int _)).i (by omega) (fun _ => rfl)
    (fun a ha y H2 e2 dy => ed_call (ea_cons (ed_var rfl dy) (ea_cons (ed_un_neg ed_int) (ea_one ed_int))) ⟨_, _, _, rfl, rfl⟩) (fun _ => rfl)).ed.is (by rw [map_bool]))))) (fun b => ?_) fun _ H3 e3 => ?_
  · rw [all_true (fun a ha => by
      have := W.num a ha
      simp only [Bool.and_eq_true, decide_eq_true_eq]
      omega)] at b
    cases b
  · have dn3 := e3.dp dn2
    have dt3 := e3.dp dt2
    have dv3 := (e1.trans (e2.trans e3)).dp dv
    refine s_for (T := T) (K := K) (eit_enum (ed_var rfl dt3) (tupOnlyAll_map to_tie ts)) (fun H4 i σ' H' => ∃ y3 y4 : Option V, σ' = [some (.ref a), some n, some t, y3, y4, none] ∧ Stp T H4 H') (fun H4 e4 => ⟨none, none, rfl, Stp.refl _⟩) (fun H4 i σ' H' e h => by
      obtain ⟨_, _, _, h⟩ := h
      exact h.tk) (fun H4 i d0 x0 σ' H' H'' e4 hd hp s2 dx0 => ?_) fun H4 σ' H' e4 hp => ?_
    · obtain ⟨y3, y4, rfl, s4⟩ := hp
      unfold enumD at hd
      rw [List.getElem?_mapIdx, List.getElem?_map] at hd
      cases hq : ts[i]? with
      | none => rw [hq] at hd; cases hd
      | some tie =>
        rw [hq] at hd
        cases hd
        obtain ⟨b, z1, z2, rfl, hb, dz1, dz2⟩ := dp_pair dx0
        obtain rfl := dp_int dz1
        refine ⟨b, _, rfl, hb, rfl, _, _, rfl, _, _, rfl, rfl, ?_⟩
        have se := e4.trans (s4.trans s2)
        have dnn := se.dp dn3
        have dtt := se.dp dt3
        have hmem := List.mem_of_getElem? hq
        have hT := W.tie tie hmem
        refine s_if (T := T) (b := !((decide (0 ≤ tie.1) && decide (tie.1 ≤ (nums.length : Int) - 1)) && ((decide (0 ≤ tie.2) && decide (tie.2 ≤ (nums.length : Int) - 1)) && decide (tie.1 < tie.2))) || (decide ((0 : Int) < i) && tieLe tie (ts.getD (i - 1) (0, 0))))
          (et_or (et_not (et_B (ed_call (K := K) (ea_cons (ed_var rfl dz2) (ea_one (ed_lenLot (ed_var rfl dnn)))) ⟨tie, _, rfl, rfl⟩))) fun _ => et_and (et_test (ed_gt (K := K) (ed_var rfl (.int (i : Int))) ed_int)) fun h0 => et_test (ed_leTie (K := K) (ed_var rfl dz2)
            (ed_ixT (ds := ts.map dTie) (ed_var rfl dtt) (ed_sub (ed_var rfl (.int (i : Int))) ed_int) (by
              rw [decide_eq_true_eq] at h0
              omega) (by
              rw [decide_eq_true_eq] at h0
              have hi := (List.getElem?_eq_some_iff.mp hq).1
              have e : ((i : Int) - 1).toNat = i - 1 := by omega
              rw [e, List.getElem?_map, List.getD_eq_getElem?_getD, List.getElem?_eq_getElem (by omega)]
              rfl)))) (fun hb => ?_) fun _ H5 e5 => ⟨_, _, rfl, s4.trans (s2.trans e5)⟩
        exfalso
        have h1 : ((decide (0 ≤ tie.1) && decide (tie.1 ≤ (nums.length : Int) - 1)) && ((decide (0 ≤ tie.2) && decide (tie.2 ≤ (nums.length : Int) - 1)) && decide (tie.1 < tie.2))) = true := by
          simp only [Bool.and_eq_true, decide_eq_true_eq]
          omega
        rw [h1] at hb
        have hb2 : (decide ((0 : Int) < i) && tieLe tie (ts.getD (i - 1) (0, 0))) = true := hb
        obtain ⟨c1, c2⟩ := Bool.and_eq_true_iff.mp hb2
        rw [decide_eq_true_eq] at c1
        obtain ⟨hi, eq⟩ := List.getElem?_eq_some_iff.mp hq
        have asc := List.pairwise_iff_getElem.mp W.asc (i - 1) i (by omega) hi (by omega)
        rw [eq] at asc
        rw [List.getD_eq_getElem?_getD, List.getElem?_eq_getElem (show i - 1 < ts.length by omega)] at c2
        have c3 : tieLe tie ts[i - 1] = true := c2
        unfold tieLe at c3
        split at c3
        · split at c3
          · omega
          · rw [decide_eq_true_eq] at c3
            omega
        · rw [decide_eq_true_eq] at c3
          omega
    · obtain ⟨y3, y4, rfl, s4⟩ := hp
      have se := e4.trans s4
      have dnn := se.dp dn3
      have dvv := se.dp dv3
      refine s_if (T := T) (b := decide (((comp ts (everyone nums.length) 0).length : Int) < nums.length)) (et_test (ed_lt (K := K) (ed_lenLot (ed_call (ea_cons (ed_var rfl dvv) (ea_cons ed_int (ea_one (ed_call (ea_one (ed_var rfl dvv)) ⟨nums, ts, rfl, by omega, rfl⟩)))) ⟨nums, ts, 0, everyone nums.length, _, rfl, .inl rfl, everyone_sort _, everyone_mem.mpr (by omega), htl, by rw [everyone_len]; omega, rfl⟩)) (ed_lenLot (ed_var rfl dnn)))) (fun hb => ?_) fun _ H5 e5 => ?_
      · exfalso
        rw [W.joined, everyone_len, decide_eq_true_eq] at hb
        omega
      · exact q _ H5 (e1.trans (e2.trans (e3.trans (se.trans e5)))) .non)
end
end Dw

/-! border_of, least_of, is_deep, deep_of, cost_of, cost, lowered. -/
namespace Dw
open PySem PySem.Spec PyProof.Rows L2 LamX
open Classical
def RBorderOf : List PyData → PyData → Prop := fun ds d => ∃ (nums : List Int) (ts : Ties) (part lot : List Int), ds = [dWeb nums ts, dLot part, dLot lot] ∧ ts.length < 64 ∧ lot.length ≤ 1000 ∧ d = dLot (border ts part lot)
def RLeastOf : List PyData → PyData → Prop := fun ds d => ∃ (nums : List Int) (ts : Ties) (lot : List Int), ds = [dWeb nums ts, dLot lot] ∧ lot ≠ [] ∧ lot.length ≤ 1000 ∧ (∀ x ∈ lot, 0 ≤ x ∧ x < nums.length) ∧ d = .int (minL (lot.map (num nums)))
def RIsDeep : List PyData → PyData → Prop := fun ds d => ∃ (nums : List Int) (ts : Ties) (piece lot : List Int), ds = [dWeb nums ts, dLot piece, dLot lot] ∧ Web nums ts ∧ Lot nums.length lot ∧ piece ∈ parts ts (rest nums.length lot) ∧ d = .bool (deep1 nums ts lot piece)
def RDeepOf : List PyData → PyData → Prop := fun ds d => ∃ (nums : List Int) (ts : Ties) (lot : List Int), ds = [dWeb nums ts, dLot lot] ∧ Web nums ts ∧ Lot nums.length lot ∧ d = dLots (deep nums ts nums.length lot)
def RCost : List PyData → PyData → Prop := fun ds d => ∃ (nums : List Int) (ts : Ties) (lot : List Int), ds = [dWeb nums ts, dLot lot] ∧ Web nums ts ∧ Lot nums.length lot ∧ d = .int (deep nums ts nums.length lot).length
def RLowered : List PyData → PyData → Prop := fun ds d => ∃ (nums : List Int) (ts : Ties) (some : List Int), ds = [dWeb nums ts, dLot some] ∧ Web nums ts ∧ (some = [] ∨ Lot nums.length some) ∧ d = dWeb (lower nums some) ts
theorem border_len (ts : Ties) (part lot : List Int) : (border ts part lot).length ≤ lot.length := List.length_filter_le _ _
/-- a piece of a web: its persons -/
theorem piece_mem {nums : List Int} {ts : Ties} {lot piece : List Int} (h : piece ∈ parts ts (rest nums.length lot)) : piece ≠ [] ∧ piece.length ≤ nums.length ∧ ∀ x ∈ piece, 0 ≤ x ∧ x < nums.length := by
  obtain ⟨x, hx, hs, hw, _⟩ := parts_mem _ (Nat.le_refl _) (rest_sort _ _) piece h
  refine ⟨part_ne (rest_sort _ _) h, ?_, fun y hy => (rest_mem.mp (hw y hy)).1⟩
  have q := nodup_len (ssort_nodup hs) (m := everyone nums.length) fun y hy => everyone_mem.mpr (rest_mem.mp (hw y hy)).1
  rw [everyone_len] at q
  exact q
theorem parts_len {ts : Ties} : ∀ (n : Nat) {lot : List Int}, lot.length ≤ n → (parts ts lot).length ≤ lot.length
  | _, [], _ => Nat.le_refl _
  | 0, _ :: _, h => absurd h (by simp)
  | n + 1, x :: r, h => by
    have q := without_len (ts := ts) (x := x) (r := r)
    rw [List.length_cons] at h
    have ih := parts_len (ts := ts) n (lot := without ts (x :: r) x) (by omega)
    rw [parts_cons, List.length_cons, List.length_cons]
    omega
theorem any_border {ts : Ties} {part : List Int} {one : Int} : ((sortI (nbr ts one)).map fun o => decide (o ∈ part)).any id = decide (∃ other ∈ part, Adj ts one other) := by
  rw [Bool.eq_iff_iff, decide_eq_true_eq, List.any_eq_true]
  constructor
  · rintro ⟨b, hb, hb2⟩
    obtain ⟨o, ho, e⟩ := List.mem_map.mp hb
    subst e
    exact ⟨o, of_decide_eq_true hb2, mem_nbr.mp ((sortI_perm _).mem_iff.mp ho)⟩
  · rintro ⟨o, h1, h2⟩
    exact ⟨true, List.mem_map.mpr ⟨o, (sortI_perm _).mem_iff.mpr (mem_nbr.mpr h2), decide_eq_true h1⟩, rfl⟩
section
variable {P : Program} {w : World} {K : PySem.W.Frag} {mg : Str → Option Value} {base : Heap} {T : List (Addr × Str)} {f : Addr} {fd : FuncData}
theorem sortI_len (ns : List Int) : (sortI ns).length = ns.length := (sortI_perm ns).length_eq
theorem ok_border_of (F : Dfn K mg "border_of" sBorderOf f fd ["web", "part", "lot"]) (B : Blt mg) (cTiedTo : Cal P w K mg base 1 "tied_to" (SpL T K RTiedTo)) : Cal P w K mg base 2 "border_of" (SpD T K RBorderOf) := .of F (F.fn.ok scBorderOf (spD_len (by rintro ds d ⟨_, _, _, _, rfl, _⟩; rfl)) fun cdv A outer s H vs Q E hr h => by
  obtain ⟨ds, d, hv, ⟨nums, ts, part, lot, rfl, htl, hll, rfl⟩, q⟩ := h
  obtain ⟨v, x, z, rfl, dv, dx, dz⟩ := args3 hv
  refine ⟨_, (pss_one (ps_ret (pe_tupleOf (by rfl) B.tuple (pe_lc (own := [("one", 3)]) (wi := iTup K _) (g := (gName 3)) rfl scBorderOf.nd (pi_tup (pv 2)) (blkOk_by (by first | decide +kernel | kernel_rfl | rfl)) (fun _ _ _ _ _ => (pg_name (i := 3) scBorderOf.nd rfl (by first | exact .inl rfl | exact .inr rfl))) (fun _ _ _ _ _ => (pts_one (pt_val (pe_callB (r := rAny K) (cr_any rfl) (by rfl) B.any PyProof.Rows.boot_any (pa_cons (pe_lc (own := [("other", 4)]) (wi := iList K _) (g := (gName 4)) rfl scBorderOf.nd (pi_list (pe_k cTiedTo hr (by decide) (by rfl) (pa_cons (pv 0) (pa_cons (pv 3) pa_nil)))) (blkOk_by (by first | decide +kernel | kernel_rfl | rfl)) (fun _ _ _ _ _ => (pg_name (i := 4) scBorderOf.nd rfl (by first | exact .inl rfl | exact .inr rfl))) (fun _ _ _ _ _ => pts_nil) (fun _ _ _ _ _ => (pe_cmpR (r := rIn K false) op_in_seq (pv 4) (pv 1) (by rfl)))) pa_nil))))) (fun _ _ _ _ _ => (pv 3)))))), ?_⟩
  refine s_ret (T := T) (K := K) (d := dLot (border ts part lot)) (ed_tupleOf (el_lc1 lot PyData.int (fun one => decide (∃ other ∈ part, Adj ts one other)) PyData.int (eit_tup (ed_var rfl dz) (tupOnlyAll_map to_int _)).i (by omega) (fun _ => rfl)
    (fun a ha y H1 e dy => (et_B (ed_any (K := K) (bs := (sortI (nbr ts a)).map fun o => decide (o ∈ part)) ((el_lc1m (j := 4) (vs := [4]) (sortI (nbr ts a)) PyData.int (fun o => PyData.bool (decide (o ∈ part))) (ei_lst (el_call (ea_cons (ed_var rfl (e.dp dv)) (ea_one (ed_var rfl dy))) ⟨nums, ts, a, rfl, htl, rfl⟩).ed) (by
      rw [sortI_len]
      have := nbr_len ts a
      omega) (fun _ => rfl) (fun o ho y2 H2 e2 dy2 => ed_in (ed_var (i := 4) rfl dy2) (ed_var (i := 1) rfl ((e.trans e2).dp dx)) (.inl rfl)) (fun _ => rfl)).ed.is (by rw [map_bool])))).is any_border) (fun a ha y H1 e dy _ => ed_var rfl dy) to_int).ed) fun v H1 e dv => q v H1 e dv)
theorem ok_least_of (F : Dfn K mg "least_of" sLeastOf f fd ["web", "lot"]) (B : Blt mg) : Cal P w K mg base 1 "least_of" (SpD T K RLeastOf) := .of F (F.fn.ok scLeastOf (spD_len (by rintro ds d ⟨_, _, _, rfl, _⟩; rfl)) fun cdv A outer s H vs Q E hr h => by
  obtain ⟨ds, d, hv, ⟨nums, ts, lot, rfl, hne, hll, hm, rfl⟩, q⟩ := h
  obtain ⟨v, x, rfl, dv, dx⟩ := args2 hv
  refine ⟨_, (pss_one (ps_ret (pe_callB (r := rMin K) (cr_min rfl) (by rfl) B.min PyProof.Rows.boot_min (pa_cons (pe_lc (own := [("one", 2)]) (wi := iTup K _) (g := (gName 2)) rfl scLeastOf.nd (pi_tup (pv 1)) (blkOk_by (by first | decide +kernel | kernel_rfl | rfl)) (fun _ _ _ _ _ => (pg_name (i := 2) scLeastOf.nd rfl (by first | exact .inl rfl | exact .inr rfl))) (fun _ _ _ _ _ => pts_nil) (fun _ _ _ _ _ => (pe_ix (r := rIxT K) ix_tup (pe_ix (r := rIxT K) ix_tup (pv 0) pe_int (fun _ _ => rfl)) (pv 2) (fun _ _ => rfl)))) pa_nil)))), ?_⟩
  exact s_ret (T := T) (K := K) (ed_min (ns := lot.map (num nums)) ((el_lc1m lot PyData.int (fun a => PyData.int (num nums a)) (eit_tup (ed_var rfl dx) (tupOnlyAll_map to_int _)).i (by omega) (fun _ => rfl)
    (fun a ha y H1 e dy => ed_ixT (ds := nums.map PyData.int) (ed_web0 (ts := ts) (ed_var rfl (e.dp dv))) (ed_var rfl dy) (hm a ha).1 (by rw [List.getElem?_map, num_get (hm a ha).1 (hm a ha).2]; rfl)) (fun _ => rfl)).ed.is (by
      show _ = PyData.list ((lot.map (num nums)).map PyData.int)
      rw [List.map_map]
      rfl)) (fun z => hne (List.map_eq_nil_iff.mp z))) fun v H1 e dv => q v H1 e dv)
theorem ok_is_deep (F : Dfn K mg "is_deep" sIsDeep f fd ["web", "piece", "lot"]) (B : Blt mg) (cLeastOf : Cal P w K mg base 1 "least_of" (SpD T K RLeastOf)) (cBorderOf : Cal P w K mg base 2 "border_of" (SpD T K RBorderOf)) : Cal P w K mg base 3 "is_deep" (SpD T K RIsDeep) := .of F (F.fn.ok scIsDeep (spD_len (by rintro ds d ⟨_, _, _, _, rfl, _⟩; rfl)) fun cdv A outer s H vs Q E hr h => by
  obtain ⟨ds, d, hv, ⟨nums, ts, piece, lot, rfl, W, L, hp, rfl⟩, q⟩ := h
  obtain ⟨v, x, z, rfl, dv, dx, dz⟩ := args3 hv
  refine ⟨_, (pss_one (ps_ret (pe_cmpR op_lt (pe_k cLeastOf hr (by decide) (by rfl) (pa_cons (pv 0) (pa_cons (pv 1) pa_nil))) (pe_k cLeastOf hr (by decide) (by rfl) (pa_cons (pv 0) (pa_cons (pe_k cBorderOf hr (by decide) (by rfl) (pa_cons (pv 0) (pa_cons (pv 1) (pa_cons (pv 2) pa_nil)))) pa_nil))) (nomark _)))), ?_⟩
  obtain ⟨p1, p2, p3⟩ := piece_mem hp
  have hle := W.le
  have hll := L.len
  have hbl := border_len ts piece lot
  exact s_ret (T := T) (K := K) (ed_lt (ed_call (ea_cons (ed_var rfl dv) (ea_one (ed_var rfl dx))) ⟨nums, ts, piece, rfl, p1, by omega, p3, rfl⟩) (ed_call (ea_cons (ed_var rfl dv) (ea_one (ed_call (ea_cons (ed_var rfl dv) (ea_cons (ed_var rfl dx) (ea_one (ed_var rfl dz)))) ⟨nums, ts, piece, lot, rfl, W.tlen, by omega, rfl⟩)))
    ⟨nums, ts, border ts piece lot, rfl, border_ne W L hp, by omega, fun y hy => L.mem y (mem_border.mp hy).1, rfl⟩)) fun v H1 e dv => q v H1 e dv)
theorem ok_deep_of (F : Dfn K mg "deep_of" sDeepOf f fd ["web", "lot"]) (B : Blt mg) (cOthers : Cal P w K mg base 2 "others" (SpD T K ROthers)) (cPartsOf : Cal P w K mg base 3 "parts_of" (SpD T K RPartsOf)) (cIsDeep : Cal P w K mg base 3 "is_deep" (SpD T K RIsDeep)) : Cal P w K mg base 4 "deep_of" (SpD T K RDeepOf) := .of F (F.fn.ok scDeepOf (spD_len (by rintro ds d ⟨_, _, _, rfl, _⟩; rfl)) fun cdv A outer s H vs Q E hr h => by
  obtain ⟨ds, d, hv, ⟨nums, ts, lot, rfl, W, L, rfl⟩, q⟩ := h
  obtain ⟨v, x, rfl, dv, dx⟩ := args2 hv
  refine ⟨_, (pss_one (ps_ret (pe_tupleOf (by rfl) B.tuple (pe_lc (own := [("piece", 2)]) (wi := iTup K _) (g := (gName 2)) rfl scDeepOf.nd (pi_tup (pe_k cPartsOf hr (by decide) (by rfl) (pa_cons (pv 0) (pa_cons (pe_k cOthers hr (by decide) (by rfl) (pa_cons (pv 0) (pa_cons (pv 1) pa_nil))) pa_nil)))) (blkOk_by (by first | decide +kernel | kernel_rfl | rfl)) (fun _ _ _ _ _ => (pg_name (i := 2) scDeepOf.nd rfl (by first | exact .inl rfl | exact .inr rfl))) (fun _ _ _ _ _ => (pts_one (pt_val (pe_k cIsDeep hr (by decide) (by rfl) (pa_cons (pv 0) (pa_cons (pv 2) (pa_cons (pv 1) pa_nil))))))) (fun _ _ _ _ _ => (pv 2)))))), ?_⟩
  have hle := W.le
  have hrl := rest_len nums.length lot
  have hpl := parts_len (ts := ts) _ (Nat.le_refl (rest nums.length lot).length)
  exact s_ret (T := T) (K := K) (ed_tupleOf (el_lc1 (parts ts (rest nums.length lot)) dLot (deep1 nums ts lot) dLot (eit_tup (ed_call (ea_cons (ed_var rfl dv) (ea_one (ed_call (ea_cons (ed_var rfl dv) (ea_one (ed_var rfl dx))) ⟨nums, ts, lot, rfl, by omega, rfl⟩))) ⟨nums, ts, rest nums.length lot, rfl, rest_sort _ _, W.tlen, by omega, rfl⟩) (tupOnlyAll_map to_lot _)).i (by omega) (fun _ => rfl)
    (fun a ha y H1 e dy => et_B (ed_call (K := K) (ea_cons (ed_var rfl (e.dp dv)) (ea_cons (ed_var rfl dy) (ea_one (ed_var rfl (e.dp dx))))) ⟨nums, ts, a, lot, rfl, W, L, ha, rfl⟩)) (fun a ha y H1 e dy _ => ed_var rfl dy) to_lot).ed) fun v H1 e dv => q v H1 e dv)
theorem ok_cost_of (F : Dfn K mg "cost_of" sCostOf f fd ["web", "lot"]) (B : Blt mg) (cDeepOf : Cal P w K mg base 4 "deep_of" (SpD T K RDeepOf)) : Cal P w K mg base 5 "cost_of" (SpD T K RCost) := .of F (F.fn.ok scCostOf (spD_len (by rintro ds d ⟨_, _, _, rfl, _⟩; rfl)) fun cdv A outer s H vs Q E hr h => by
  obtain ⟨ds, d, hv, ⟨nums, ts, lot, rfl, W, L, rfl⟩, q⟩ := h
  obtain ⟨v, x, rfl, dv, dx⟩ := args2 hv
  refine ⟨_, (pss_one (ps_ret (pe_callB (r := rLenS K) call_len_seq (by rfl) B.len PySem.boot_len (pa_cons (pe_k cDeepOf hr (by decide) (by rfl) (pa_cons (pv 0) (pa_cons (pv 1) pa_nil))) pa_nil)))), ?_⟩
  exact s_ret (T := T) (K := K) ((ed_lenT (ed_call (ea_cons (ed_var rfl dv) (ea_one (ed_var rfl dx))) ⟨nums, ts, lot, rfl, W, L, rfl⟩)).is (by rw [List.length_map])) fun v H1 e dv => q v H1 e dv)
theorem ok_cost (F : Dfn K mg "cost" sCost f fd ["web", "lot"]) (B : Blt mg) (cNeedWeb : Cal P w K mg base 4 "need_web" (SpD T K RNeedWeb)) (cNeedLot : Cal P w K mg base 3 "need_lot" (SpD T K RNeedLot)) (cCostOf : Cal P w K mg base 5 "cost_of" (SpD T K RCost)) : Cal P w K mg base 6 "cost" (SpD T K RCost) := .of F (F.fn.ok scCost (spD_len (by rintro ds d ⟨_, _, _, rfl, _⟩; rfl)) fun cdv A outer s H vs Q E hr h => by
  obtain ⟨ds, d, hv, ⟨nums, ts, lot, rfl, W, L, rfl⟩, q⟩ := h
  obtain ⟨v, x, rfl, dv, dx⟩ := args2 hv
  refine ⟨_, (pss_cons (ps_expr (pe_k cNeedWeb hr (by decide) (by rfl) (pa_cons (pv 0) pa_nil)))
    (pss_cons (ps_expr (pe_k cNeedLot hr (by decide) (by rfl) (pa_cons (pv 0) (pa_cons (pv 1) pa_nil))))
    (pss_one (ps_ret (pe_k cCostOf hr (by decide) (by rfl) (pa_cons (pv 0) (pa_cons (pv 1) pa_nil))))))), ?_⟩
  refine s_drop (T := T) (K := K) (ed_call (ea_one (ed_var rfl dv)) ⟨nums, ts, rfl, W, rfl⟩) fun H1 e1 => ?_
  refine s_drop (T := T) (K := K) (ed_call (ea_cons (ed_var rfl (e1.dp dv)) (ea_one (ed_var rfl (e1.dp dx)))) ⟨nums, ts, lot, rfl, L, W.le, rfl⟩) fun H2 e2 => ?_
  have se := e1.trans e2
  exact s_ret (T := T) (K := K) (ed_call (ea_cons (ed_var rfl (se.dp dv)) (ea_one (ed_var rfl (se.dp dx)))) ⟨nums, ts, lot, rfl, W, L, rfl⟩) fun v H1 e dv => q v H1 (se.trans e) dv)
theorem enum_nums (nums : List Int) : enumD (nums.map PyData.int) = (List.range nums.length).map fun (i : Nat) => PyData.tuple [.int (i : Int), .int (num nums (i : Int))] := by
  refine List.ext_getElem? fun i => ?_
  unfold enumD
  rw [List.getElem?_mapIdx, List.getElem?_map, List.getElem?_map]
  by_cases h : i < nums.length
  · have h2 := num_get (nums := nums) (x := (i : Int)) (by omega) (by omega)
    rw [Int.toNat_natCast] at h2
    rw [h2, List.getElem?_range h]
    rfl
  · rw [List.getElem?_eq_none (by omega), List.getElem?_eq_none (by rw [List.length_range]; omega)]
    rfl
/-- if t: .., without an else -/
theorem s_ifThen {D : Ends} {tt : TT} {tu tz : TS} {σ : L2.St} {H : Hp} {b : Bool} (h : ET T tt σ H b) (h1 : b = true → ∀ H1, Stp T H H1 → ∀ D' : Ends, (∀ H2, Stp T H1 H2 → D'.nx σ H2) → tu D' σ H1) (k : ∀ H1, Stp T H H1 → tz D σ H1) : tSeq (tIfS tt tu tNext) tz D σ H :=
  s_if (D := { D with nx := tz D }) h (fun hb H1 e => h1 hb H1 e _ fun H2 e2 => k H2 (e.trans e2)) fun hb H1 e => k H1 e
theorem ok_lowered (F : Dfn K mg "lowered" sLowered f fd ["web", "some"]) (B : Blt mg) (cNeedWeb : Cal P w K mg base 4 "need_web" (SpD T K RNeedWeb)) (cNeedLot : Cal P w K mg base 3 "need_lot" (SpD T K RNeedLot)) : Cal P w K mg base 5 "lowered" (SpD T K RLowered) := .of F (F.fn.ok scLowered (spD_len (by rintro ds d ⟨_, _, _, rfl, _⟩; rfl)) fun cdv A outer s H vs Q E hr h => by
  obtain ⟨ds, d, hv, ⟨nums, ts, som, rfl, W, L, rfl⟩, q⟩ := h
  obtain ⟨v, x, rfl, dv, dx⟩ := args2 hv
  refine ⟨_, (pss_cons (ps_expr (pe_k cNeedWeb hr (by decide) (by rfl) (pa_cons (pv 0) pa_nil)))
    (pss_cons (ps_if (pt_cmpR (r := rNeD K) (op_neD hr.units) (pv 1) (pe_tup pa_nil) (nomark _))
      (pss_one (ps_expr (pe_k cNeedLot hr (by decide) (by rfl) (pa_cons (pv 0) (pa_cons (pv 1) pa_nil)))))
      pss_nil)
    (pss_cons (ps_set (i := 2) scLowered.nd rfl (by first | exact .inl rfl | exact .inr rfl) (pe_callB (r := rMinT K) (cr_minT rfl hr.units) (by rfl) B.min PyProof.Rows.boot_min (pa_cons (pe_ix (r := rIxT K) ix_tup (pv 0) pe_int (fun _ _ => rfl)) pa_nil)))
    (pss_one (ps_ret (pe_tup (pa_cons (pe_tupleOf (by rfl) B.tuple (pe_lc (own := [("one", 3), ("number", 4)]) (wi := iEnumT K _) (g := (gTup K 2 (gCons (gName 3) (gCons (gName 4) gNil)))) rfl scLowered.nd (pi_enumT (by rfl) B.enumerate (pa_cons (pe_ix (r := rIxT K) ix_tup (pv 0) pe_int (fun _ _ => rfl)) pa_nil)) (blkOk_by (by first | decide +kernel | kernel_rfl | rfl)) (fun _ _ _ _ _ => (pg_tup rfl (pgs_cons (pg_name (i := 3) scLowered.nd rfl (by first | exact .inl rfl | exact .inr rfl)) (pgs_cons (pg_name (i := 4) scLowered.nd rfl (by first | exact .inl rfl | exact .inr rfl)) pgs_nil)))) (fun _ _ _ _ _ => pts_nil) (fun _ _ _ _ _ => (pe_ifExp (pt_cmpR (r := rIn K false) op_in_seq (pv 3) (pv 1) (by rfl)) (pv 2) (pv 4))))) (pa_cons (pe_ix (r := rIxT K) ix_tup (pv 0) pe_int (fun _ _ => rfl)) pa_nil)))))))), ?_⟩
  have hle := W.le
  have hpos := W.pos
  have hne : nums ≠ [] := List.length_pos_iff.mp hpos
  refine s_drop (T := T) (K := K) (ed_call (ea_one (ed_var rfl dv)) ⟨nums, ts, rfl, W, rfl⟩) fun H1 e1 => ?_
  have dv1 := e1.dp dv
  have dx1 := e1.dp dx
  refine s_ifThen (T := T) (b := !(som.map PyData.int).isEmpty) (et_test (ed_neNilT (K := K) (ds := som.map PyData.int) (ed_var rfl dx1) (shaped_ints som).1)) (fun hb H2 e2 D' k => ?_) fun H2 e2 => ?_
  · have L2 : Lot nums.length som := L.elim (fun z => by
      subst z
      cases hb) id
    exact s_drop (T := T) (K := K) (ed_call (ea_cons (ed_var rfl (e2.dp dv1)) (ea_one (ed_var rfl (e2.dp dx1)))) ⟨nums, ts, som, rfl, L2, hle, rfl⟩) fun H3 e3 => k H3 e3
  · have dv2 := e2.dp dv1
    have dx2 := e2.dp dx1
    refine s_asg (T := T) (K := K) (d := .int (minL nums)) (ed_minT (ed_web0 (ts := ts) (ed_var rfl dv2)) hne) fun vl H3 e3 dl => ?_
    obtain rfl := dp_int dl
    have se := e1.trans (e2.trans e3)
    have dv3 := e3.dp dv2
    have dx3 := e3.dp dx2
    refine s_ret (T := T) (K := K) (d := dWeb (lower nums som) ts) (ed_tup (ea_cons (ed_tupleOf ((el_lc2 (T := T) (K := K) (j1 := 3) (j2 := 4) (vs := [3, 4]) (List.range nums.length) (fun (i : Nat) => PyData.int (i : Int)) (fun (i : Nat) => PyData.int (num nums (i : Int))) (fun _ => true) (fun (i : Nat) => PyData.int (if (i : Int) ∈ som then minL nums else num nums (i : Int)))
      (by
        have h := (eit_enum (T := T) (K := K) (te := tOp (rIxT K) (tVar 0) (tC (.int 0))) (σ := [some v, some x, some (.int (minL nums)), none, none]) (H := H3) (ds := nums.map PyData.int) (ed_web0 (ts := ts) (ed_var rfl dv3)) (tupOnlyAll_map to_int _)).i
        rw [enum_nums] at h
        exact h) (by rw [List.length_range]; omega) (fun _ _ => rfl) (fun a ha y z H4 e4 dy dz => et_yes) (fun a ha y z H4 e4 dy dz _ => ed_if (et_test (ed_in (K := K) (ns := som) (ed_var (i := 3) rfl dy) (ed_var (i := 1) rfl (e4.dp dx3)) (.inl rfl)))
        (fun hb => (ed_var (i := 2) rfl (.int _)).is (by
          rw [decide_eq_true_eq] at hb
          rw [if_pos hb])) (fun hb => (ed_var (i := 4) rfl dz).is (by
          rw [decide_eq_false_iff_not] at hb
          rw [if_neg hb]))) (fun _ => rfl)).ed.is (by
        show _ = PyData.list ((lower nums som).map PyData.int)
        unfold lower
        rw [List.filter_eq_self.mpr (fun _ _ => rfl), List.map_map]
        rfl))) (ea_one (ed_web1 (ed_var (i := 0) rfl dv3)))) (by show 2 ≤ 100000; decide)) fun v H1 e dv => ?_
    exact q v H1 (se.trans e) dv)
end
end Dw

/-! lots_of. -/
namespace Dw
open PySem PySem.Spec PyProof.Rows L2 LamX
/-- all lots of so many persons, in their order -/
def LOTS (n : Nat) : List (List Int) := ((subs n).filter fun l => !l.isEmpty).mergeSort (PySem.W.dataLe false keyD)
theorem LOTS_mem {n : Nat} {l : List Int} : l ∈ LOTS n ↔ Lot n l := by
  unfold LOTS
  rw [List.mem_mergeSort, List.mem_filter, ← subs_lot]
  cases l <;> simp
theorem LOTS_len (n : Nat) : (LOTS n).length ≤ 2 ^ n := by
  unfold LOTS
  rw [List.length_mergeSort]
  have h := List.length_filter_le (fun l => !l.isEmpty) (subs n)
  rw [subs_len] at h
  exact h
/-- the promise of a def that may make the lambda -/
def SpDT (T : List (Addr × Str)) (K : PySem.W.Frag) (R : List PyData → PyData → Prop) : Sp := fun vs H Q E => Tabs T H ∧ SpD T K R vs H Q E
def SpLT (T : List (Addr × Str)) (K : PySem.W.Frag) (R : List PyData → List PyData → Prop) : Sp := fun vs H Q E => Tabs T H ∧ SpL T K R vs H Q E
def RLotsOf : List PyData → List PyData → Prop := fun ds es => ∃ n : Nat, ds = [.int n] ∧ n ≤ 7 ∧ es = (LOTS n).map dLot
/-- the lambda's name -/
abbrev qLam : Str := ("lots_of" : Str) ++ ".<locals>." ++ "<lambda>"
section
variable {P : Program} {w : World} {K : PySem.W.Frag} {mg : Str → Option Value} {base : Heap} {T : List (Addr × Str)} {f : Addr} {fd : FuncData} {σ : L2.St} {H : Hp} {te tb : TE} {tas : TA} {ds es : List PyData} {d : PyData}
theorem Fun.okC {x qual : Str} {st : Stmt} {c : Addr} {N ps : List Str} {k : Nat} {sp : Sp} (F : Fun K x qual st f fd) (hc : fd.code = .ref c) (S : FnScope N ps (defScope st)) (len : ∀ vs H Q E, sp vs H Q E → vs.length = ps.length)
    (hbody : ∀ (A : Around) (outer : List Env) (s : Shared) (H : Hp) (vs : List V) (Q : VK) (E : XK), Room k (A.deeper (envOfC qual (defScope st) s.heap.objs.size f (.ref c))) → sp vs H Q E →
      ∃ t, PSs (cxOf CX0 P w K mg base N qual (defScope st) f (.ref c) A outer s H E).nox (defBody st) t ∧ t { nx := fun _ H' => Q .non H', rt := Q } (start N vs) H) : FnOk P w K mg base CX0 (k + 1) f fd ps sp := by
  obtain ⟨oc, od, kV, doc, pm, an, cdv, ct, osl, rfl, lk, hcd⟩ := F.ex
  have e : cdv = .ref c := hc
  subst e
  refine fn_of lk hcd S len fun A outer s H vs Q E hr hsp => ?_
  obtain ⟨t, h, q⟩ := hbody A outer s H vs Q E hr hsp
  exact ⟨t, h.nox, q⟩
theorem ed_callT {R : List PyData → PyData → Prop} {E : XK} (t : Tabs T H) (h : EA T K tas σ H ds) (hr : R ds d) : ED T K (tCall (SpDT T K R) [] E tas) σ H d := fun H1 e Q q =>
  h H1 e _ fun vs H2 e2 dvs => ⟨(e.trans e2).2 t, ds, d, by rw [List.append_nil]; exact dvs, hr, fun v H3 e3 dv => q v H3 (e2.trans e3) dv⟩
theorem el_callT {R : List PyData → List PyData → Prop} {E : XK} (t : Tabs T H) (h : EA T K tas σ H ds) (hr : R ds es) : EL T K (tCall (SpLT T K R) [] E tas) σ H es := fun H1 e Q q =>
  h H1 e _ fun vs H2 e2 dvs => ⟨(e.trans e2).2 t, ds, es, by rw [List.append_nil]; exact dvs, hr, fun p xs H3 hp e3 h3 dv => q p xs H3 (.back e2 hp) (e2.trans e3) h3 dv⟩
/-- (*x, ..) -/
theorem ea_star (h : ED T K te σ H (.tuple ds)) (hr : EA T K tas σ H es) : EA T K (StX.tStar K te tas) σ H (ds ++ es) := fun H1 e Q q => h H1 e _ fun v H2 e2 dv => by
  obtain ⟨p, xs, rfl, h1, h2⟩ := dp_tup dv
  exact ⟨p, xs, rfl, .inl h1, hr H2 (e.trans e2) _ fun ys H3 e3 dys => q _ H3 (e2.trans e3) (DpAll.append dys (e3.dpAll h2))⟩
/-- x + y of lists, x in a slot -/
theorem el_cat {i : Nat} {l : Addr} {xs : List V} (hi : σ[i]? = some (some (.ref l))) (hl : H l = some (.lst xs)) (hd : DpAll K H xs ds) (h : EL T K tb σ H es) (hz : ds.length + es.length ≤ 100000) : EL T K (tOp rCat (tVar i) tb) σ H (ds ++ es) := fun H1 e Q q =>
  ⟨.ref l, hi, h H1 e _ fun p ys H2 np e2 h2 dys => ⟨l, p, xs, ys, rfl, rfl, (e.trans e2).lst hl, h2, by
    rw [DpAll.length hd, DpAll.length dys]
    exact sz_small hz, fun p' hp => q p' _ _ (.back e2 (.of hp)) (e2.upd hp) upd_same ((Stp.new (T := T) hp).dpAll (DpAll.append dys ((e.trans e2).dpAll hd)))⟩⟩
/-- lists of lots, with their addresses -/
theorem lots_addr : ∀ {xs : List V} {ls : List (List Int)}, DpAll K H xs (ls.map dLot) → ∃ ps : List (Addr × List Int), xs = ps.map (fun p => V.ref p.1) ∧ ps.map (·.2) = ls ∧ ∀ p ∈ ps, SqT K H p.1 (p.2.map V.int)
  | _, [], h => by
    cases h
    exact ⟨[], rfl, rfl, fun p hp => by cases hp⟩
  | _, l :: ls, h => by
    cases h with
    | cons h1 h2 =>
      obtain ⟨ps, rfl, e2, h3⟩ := lots_addr h2
      obtain ⟨a, ys, rfl, h4, h5⟩ := dp_tup h1
      obtain rfl := dpAll_int h5
      refine ⟨(a, l) :: ps, rfl, by rw [List.map_cons, e2], fun p hp => ?_⟩
      rcases List.mem_cons.mp hp with z | z
      · subst z
        exact h4
      · exact h3 p z
theorem lots_back : ∀ {ps : List (Addr × List Int)}, (∀ p ∈ ps, SqT K H p.1 (p.2.map V.int)) → DpAll K H (ps.map fun p => V.ref p.1) ((ps.map (·.2)).map dLot)
  | [], _ => .nil
  | p :: ps, h => .cons (.tup (h p List.mem_cons_self) (dpAll_ints _)) (lots_back fun q hq => h q (List.mem_cons_of_mem _ hq))
theorem el_sortLam {ls : List (List Int)} (t : Tabs T H) (h : EL T K te σ H (ls.map dLot)) (hz : ∀ l ∈ ls, l.length ≤ 1000) : EL T K (tSortLam T K te) σ H ((ls.mergeSort (PySem.W.dataLe false keyD)).map dLot) := fun H1 e Q q => h H1 e _ fun p xs H2 np e2 h2 dxs => by
  obtain ⟨ps, rfl, e3, h3⟩ := lots_addr dxs
  refine ⟨(e.trans e2).2 t, p, ps, rfl, .inl (.inl h2), fun x hx => ⟨h3 x hx, hz _ (by rw [← e3]; exact List.mem_map.mpr ⟨x, hx, rfl⟩)⟩, fun H3 b s3 hb => ?_⟩
  refine q b _ _ (.back e2 (.back s3 (.of hb))) ((e2.trans s3).upd hb) upd_same ?_
  have e4 : (ps.mergeSort (PySem.W.dataLe false fun p => keyD p.2)).map (·.2) = ls.mergeSort (PySem.W.dataLe false keyD) := by
    rw [← e3]
    exact PySem.W.sort_maps (fun p : Addr × List Int => p.2) fun a _ b _ => rfl
  rw [← e4]
  exact lots_back fun x hx => (s3.upd (o := .lst _) hb).t (h3 x (List.mem_mergeSort.mp hx))
theorem ok_lots_of {c Pt : Addr} (F : Dfn K mg "lots_of" sLotsOf f fd ["many"]) (B : Blt mg) (hc : fd.code = .ref c) (TB : TabB base mg c Pt) (hT : T = [(Pt, qLam)]) : Cal P w K mg base 3 "lots_of" (SpLT T K RLotsOf) := .of F (Fun.okC F.fn hc scLotsOf (fun vs H Q E h => spL_len (by rintro ds d ⟨_, rfl, _⟩; rfl) vs H Q E h.2) fun A outer s H vs Q E hr h => by
  obtain ⟨tab, ds, d, hv, ⟨n, rfl, hn, rfl⟩, q⟩ := h
  obtain ⟨v, rfl, dv⟩ := args1 hv
  obtain rfl := dp_int dv
  have hmT : (Pt, ("lots_of" : Str) ++ ".<locals>." ++ "<lambda>") ∈ T := by rw [hT]; exact List.mem_singleton.mpr rfl
  have hu : ∀ p ∈ T, p.1 = Pt → p.2 = ("lots_of" : Str) ++ ".<locals>." ++ "<lambda>" := fun p hp _ => by
    rw [hT] at hp
    rw [List.mem_singleton.mp hp]
  refine ⟨_, (pss_cons (ps_set (i := 1) scLotsOf.nd rfl (by first | exact .inl rfl | exact .inr rfl) (pe_lst (pa_cons (pe_tup pa_nil) pa_nil)))
    (pss_cons (ps_for PassesOwn.never rfl (pi_range1 (by rfl) B.range (pa_cons (pv 0) pa_nil)) (pg_name (i := 2) scLotsOf.nd rfl (by first | exact .inl rfl | exact .inr rfl))
      (pss_one (ps_set (i := 1) scLotsOf.nd rfl (by first | exact .inl rfl | exact .inr rfl) (pe_op op_cat (pv 1) (pe_lc (own := [("lot", 3)]) (wi := iList K _) (g := (gName 3)) rfl scLotsOf.nd (pi_list (pv 1)) (blkOk_by (by first | decide +kernel | kernel_rfl | rfl)) (fun _ _ _ _ _ => (pg_name (i := 3) scLotsOf.nd rfl (by first | exact .inl rfl | exact .inr rfl))) (fun _ _ _ _ _ => pts_nil) (fun _ _ _ _ _ => (pe_tup (t := StX.tStar K _ _) (StX.pa_star (pv 3) (pa_cons (pv 2) pa_nil)))))))))
    (pss_one (ps_ret (pe_sortedLam (j := 0) (T := T) (c := c) (P := Pt) (by rfl) B.sorted B.len hr (pe_lc (own := [("lot", 3)]) (wi := iList K _) (g := (gName 3)) rfl scLotsOf.nd (pi_list (pv 1)) (blkOk_by (by first | decide +kernel | kernel_rfl | rfl)) (fun _ _ _ _ _ => (pg_name (i := 3) scLotsOf.nd rfl (by first | exact .inl rfl | exact .inr rfl))) (fun _ _ _ _ _ => (pts_one (pt_cmpR (r := rNeD K) (op_neD hr.units) (pv 3) (pe_tup pa_nil) (nomark _)))) (fun _ _ _ _ _ => (pv 3))) TB rfl hmT hu rfl (fun _ _ _ _ _ => rfl) rfl rfl rfl (by decide +kernel) rfl rfl rfl (by decide) (by decide)))))), ?_⟩
  refine s_asgL (T := T) (K := K) (ds := [dLot []]) (el_lst (ea_one (ed_tup ea_nil (by decide))) (by decide)) fun l0 xs0 H1 np e1 h1 dxs => ?_
  refine s_for (T := T) (K := K) (eit_rng1 (n := (n : Int)) (ea_one (ed_var rfl (.int (n : Int)))) (by omega) (by omega)) (fun H2 i σ' H' => ∃ (l : Addr) (xs : List V) (y2 : Option V), σ' = [some (.int (n : Int)), some (.ref l), y2, none] ∧ Stp T H H' ∧ Stp T H2 H' ∧ H' l = some (.lst xs) ∧ DpAll K H' xs ((subs i).map dLot))
    (fun H2 e2 => ⟨l0, xs0, none, rfl, e1.trans e2, Stp.refl _, e2.lst h1, e2.dpAll dxs⟩) (fun H2 i σ' H' e h => by
      obtain ⟨_, _, _, _, _, h, _⟩ := h
      exact h.tk) (fun H2 i d0 x0 σ' H' H'' e2 hd hp s2 dx0 => ?_) fun H2 σ' H' e2 hp => ?_
  · obtain ⟨l, xs, y2, rfl, sH, s2', hl, dxs⟩ := hp
    rw [ints_get] at hd
    by_cases hi : i < (n : Int).toNat
    · rw [if_pos hi] at hd
      cases hd
      obtain rfl := dp_int dx0
      have hl2 := s2.lst hl
      have dxs2 := s2.dpAll dxs
      have hsl := subs_len i
      have hpow : 2 ^ i ≤ 2 ^ 7 := Nat.pow_le_pow_right (by decide) (by omega)
      refine s_asgL (T := T) (K := K) (ds := (subs i).map dLot ++ (subs i).map fun l => dLot (l ++ [(i : Int)])) (el_cat (l := l) rfl hl2 dxs2 (el_lc1m (subs i) dLot (fun l => dLot (l ++ [(i : Int)])) (ei_lst (ed_var (i := 1) rfl (.lst (.inl (.inl hl2)) dxs2))) (by omega) (fun _ => rfl)
        (fun a ha y H3 e3 dy => (ed_tup (ea_star (ed_var (i := 3) rfl dy) (ea_one (ed_var (i := 2) rfl (.int (i : Int))))) (by
          rw [List.length_append, List.length_map]
          have h1 := (Lot.len (n := 8) (lot := a ++ [7]) ?_)
          · have h2 : ([7] : List Int).length = 1 := rfl
            rw [List.length_append] at h1
            show a.length + 1 ≤ 100000
            omega
          · obtain ⟨a1, a2⟩ := subs_mem.mp ha
            refine ⟨by simp, List.pairwise_append.mpr ⟨a1, by simp, fun x hx z hz => ?_⟩, fun x hx => ?_⟩
            · simp at hz
              have := a2 x hx
              omega
            · rcases List.mem_append.mp hx with q | q
              · have := a2 x q
                omega
              · simp at q
                omega)).is (by
          show PyData.tuple (a.map PyData.int ++ [.int (i : Int)]) = PyData.tuple ((a ++ [(i : Int)]).map PyData.int)
          rw [List.map_append]
          rfl)) (fun a => to_lot _)) (by
            rw [List.length_map, List.length_map]
            omega)) fun l' ys H3 np' e3 h3 dys => ?_
      refine ⟨l', ys, _, rfl, sH.trans (s2.trans e3), s2'.trans (s2.trans e3), h3, ?_⟩
      have e4 : (subs (i + 1)).map dLot = (subs i).map dLot ++ (subs i).map fun l => dLot (l ++ [(i : Int)]) := by
        show (subs i ++ (subs i).map fun l => l ++ [(i : Int)]).map dLot = _
        rw [List.map_append, List.map_map]
        rfl
      rw [e4]
      exact dys
    · rw [if_neg hi] at hd
      cases hd
  · obtain ⟨l, xs, y2, rfl, sH, s2', hl, dxs⟩ := hp
    have e5 : ((everyone (n : Int).toNat).map PyData.int).length = n := by
      rw [List.length_map, everyone_len]
      omega
    rw [e5] at dxs
    have hsl := subs_len n
    have hpow : 2 ^ n ≤ 2 ^ 7 := Nat.pow_le_pow_right (by decide) hn
    refine s_retL (T := T) (K := K) (el_sortLam (ls := (subs n).filter fun l => !l.isEmpty) (sH.2 tab) (el_lc1 (subs n) dLot (fun l => !l.isEmpty) dLot (ei_lst (ed_var (i := 1) rfl (.lst (.inl (.inl hl)) dxs))) (by omega) (fun _ => rfl)
      (fun a ha y H3 e3 dy => (et_test (ed_neNilT (K := K) (ds := a.map PyData.int) (ed_var (i := 3) rfl dy) (shaped_ints a).1)).is (by rw [isEmpty_map])) (fun a ha y H3 e3 dy _ => ed_var (i := 3) rfl dy) to_lot) (fun l hl => by
      obtain ⟨a1, a2⟩ := List.mem_filter.mp hl
      have L : Lot n l := subs_lot.mp ⟨a1, fun z => by
        subst z
        cases a2⟩
      have := L.len
      omega)) fun p' zs H3 np' e3 h3 dzs => q p' zs H3 (.back sH np') (sH.trans e3) h3 dzs)
end
end Dw

/-! least_lowered_of, fewest_lowered, least_lowered. -/
namespace Dw
open PySem PySem.Spec PyProof.Rows L2 LamX
open Classical
def RLeastLow : List PyData → PyData → Prop := fun ds d => ∃ (nums : List Int) (ts : Ties) (lot : List Int), ds = [dWeb nums ts, dLot lot] ∧ Web nums ts ∧ Lot nums.length lot ∧ d = dLot (leastLow (LOTS nums.length) nums ts lot)
def RFewestLow : List PyData → PyData → Prop := fun ds d => ∃ (nums : List Int) (ts : Ties) (lot : List Int), ds = [dWeb nums ts, dLot lot] ∧ Web nums ts ∧ Lot nums.length lot ∧ d = .int (leastLow (LOTS nums.length) nums ts lot).length
theorem find_first {α : Type} {p : α → Bool} : ∀ {l : List α} {i : Nat} {a : α}, (∀ x ∈ l.take i, p x = false) → l[i]? = some a → p a = true → l.find? p = some a
  | [], _, _, _, h, _ => by simp at h
  | x :: l, 0, a, _, h, hp => by
    simp at h
    subst h
    rw [List.find?_cons_of_pos hp]
  | x :: l, i + 1, a, h0, h, hp => by
    have hx : p x = false := h0 x (by rw [List.take_succ_cons]; exact List.mem_cons_self)
    rw [List.find?_cons_of_neg (by rw [hx]; decide)]
    exact find_first (i := i) (fun y hy => h0 y (by rw [List.take_succ_cons]; exact List.mem_cons_of_mem _ hy)) (by simpa using h) hp
theorem all_decide {α : Type} {f : α → Bool} {l : List α} : (l.map f).all id = decide (∀ a ∈ l, f a = true) := by
  rw [Bool.eq_iff_iff, decide_eq_true_eq, List.all_eq_true]
  constructor
  · intro h a ha
    exact h (f a) (List.mem_map.mpr ⟨a, ha, rfl⟩)
  · intro h b hb
    obtain ⟨a, ha, e⟩ := List.mem_map.mp hb
    rw [← e]
    exact h a ha
theorem any_hit {ts : Ties} {lot som piece : List Int} : ((border ts piece lot).map fun o => decide (o ∈ som)).any id = hit ts lot som piece := by
  unfold hit
  rw [Bool.eq_iff_iff, decide_eq_true_eq, List.any_eq_true]
  constructor
  · rintro ⟨b, hb, hb2⟩
    obtain ⟨o, ho, e⟩ := List.mem_map.mp hb
    subst e
    exact ⟨o, ho, of_decide_eq_true hb2⟩
  · rintro ⟨o, h1, h2⟩
    exact ⟨true, List.mem_map.mpr ⟨o, h1, decide_eq_true h2⟩, rfl⟩
section
variable {P : Program} {w : World} {K : PySem.W.Frag} {mg : Str → Option Value} {base : Heap} {T : List (Addr × Str)} {f : Addr} {fd : FuncData}
theorem ok_least_lowered_of (F : Dfn K mg "least_lowered_of" sLeastLoweredOf f fd ["web", "lot"]) (B : Blt mg) (cDeepOf : Cal P w K mg base 4 "deep_of" (SpD T K RDeepOf)) (cLotsOf : Cal P w K mg base 3 "lots_of" (SpLT T K RLotsOf)) (cBorderOf : Cal P w K mg base 2 "border_of" (SpD T K RBorderOf)) :
    Cal P w K mg base 5 "least_lowered_of" (SpDT T K RLeastLow) := .of F (F.fn.ok scLeastLoweredOf (fun vs H Q E h => spD_len (by rintro ds d ⟨_, _, _, rfl, _⟩; rfl) vs H Q E h.2) fun cdv A outer s H vs Q E hr h => by
  obtain ⟨tab, ds, d, hv, ⟨nums, ts, lot, rfl, W, L, rfl⟩, q⟩ := h
  obtain ⟨v, x, rfl, dv, dx⟩ := args2 hv
  refine ⟨_, (pss_cons (ps_set (i := 2) scLeastLoweredOf.nd rfl (by first | exact .inl rfl | exact .inr rfl) (pe_k cDeepOf hr (by decide) (by rfl) (pa_cons (pv 0) (pa_cons (pv 1) pa_nil))))
    (pss_cons (ps_if (pt_cmpR (r := rEqD K) (op_eqD hr.units) (pv 2) (pe_tup pa_nil) (nomark _))
      (pss_one (ps_ret (pe_tup pa_nil)))
      pss_nil)
    (pss_cons (ps_for PassesOwn.never rfl (pi_list (pe_k cLotsOf hr (by decide) (by rfl) (pa_cons (pe_callB (r := rLenS K) call_len_seq (by rfl) B.len PySem.boot_len (pa_cons (pe_ix (r := rIxT K) ix_tup (pv 0) pe_int (fun _ _ => rfl)) pa_nil)) pa_nil))) (pg_name (i := 3) scLeastLoweredOf.nd rfl (by first | exact .inl rfl | exact .inr rfl))
      (pss_one (ps_if (pt_val (pe_callB (r := rAll K) (cr_all rfl) (by rfl) B.all PyProof.Rows.boot_all (pa_cons (pe_lc (own := [("one", 4)]) (wi := iTup K _) (g := (gName 4)) rfl scLeastLoweredOf.nd (pi_tup (pv 3)) (blkOk_by (by first | decide +kernel | kernel_rfl | rfl)) (fun _ _ _ _ _ => (pg_name (i := 4) scLeastLoweredOf.nd rfl (by first | exact .inl rfl | exact .inr rfl))) (fun _ _ _ _ _ => pts_nil) (fun _ _ _ _ _ => (pe_cmpR (r := rIn K false) op_in_seq (pv 4) (pv 1) (by rfl)))) pa_nil)))
      (pss_one (ps_if (pt_val (pe_callB (r := rAll K) (cr_all rfl) (by rfl) B.all PyProof.Rows.boot_all (pa_cons (pe_lc (own := [("piece", 5)]) (wi := iTup K _) (g := (gName 5)) rfl scLeastLoweredOf.nd (pi_tup (pv 2)) (blkOk_by (by first | decide +kernel | kernel_rfl | rfl)) (fun _ _ _ _ _ => (pg_name (i := 5) scLeastLoweredOf.nd rfl (by first | exact .inl rfl | exact .inr rfl))) (fun _ _ _ _ _ => pts_nil) (fun _ _ _ _ _ => (pe_callB (r := rAny K) (cr_any rfl) (by rfl) B.any PyProof.Rows.boot_any (pa_cons (pe_lc (own := [("one", 4)]) (wi := iTup K _) (g := (gName 4)) rfl scLeastLoweredOf.nd (pi_tup (pe_k cBorderOf hr (by decide) (by rfl) (pa_cons (pv 0) (pa_cons (pv 5) (pa_cons (pv 1) pa_nil))))) (blkOk_by (by first | decide +kernel | kernel_rfl | rfl)) (fun _ _ _ _ _ => (pg_name (i := 4) scLeastLoweredOf.nd rfl (by first | exact .inl rfl | exact .inr rfl))) (fun _ _ _ _ _ => pts_nil) (fun _ _ _ _ _ => (pe_cmpR (r := rIn K false) op_in_seq (pv 4) (pv 3) (by rfl)))) pa_nil)))) pa_nil)))
      (pss_one (ps_ret (pv 3)))
      pss_nil))
      pss_nil)))
    (pss_one (ps_ret (pe_tup pa_nil)))))), ?_⟩
  have hle := W.le
  have hll := L.len
  refine s_asg (T := T) (K := K) (d := dLots (deep nums ts nums.length lot)) (ed_call (ea_cons (ed_var rfl dv) (ea_one (ed_var rfl dx))) ⟨nums, ts, lot, rfl, W, L, rfl⟩) fun vd H1 e1 dd => ?_
  have dv1 := e1.dp dv
  have dx1 := e1.dp dx
  have hdl : (deep nums ts nums.length lot).length ≤ 7 := by
    have h1 := List.length_filter_le (deep1 nums ts lot) (parts ts (rest nums.length lot))
    have h2 := parts_len (ts := ts) _ (Nat.le_refl (rest nums.length lot).length)
    have h3 := rest_len nums.length lot
    unfold deep
    omega
  refine s_if (T := T) (b := ((deep nums ts nums.length lot).map dLot).isEmpty) (et_test (ed_eqNilT (K := K) (ds := (deep nums ts nums.length lot).map dLot) (ed_var rfl dd) (shaped_lots _).1)) (fun hb H2 e2 => ?_) fun hb H2 e2 => ?_
  · rw [isEmpty_map] at hb
    have h0 : deep nums ts nums.length lot = [] := List.isEmpty_iff.mp hb
    refine s_ret (T := T) (K := K) (d := dLot []) (ed_tup ea_nil (by decide)) fun vv H3 e3 dvv => q vv H3 (e1.trans (e2.trans e3)) ?_
    unfold leastLow
    rw [if_pos h0]
    exact dvv
  · rw [isEmpty_map] at hb
    have h0 : deep nums ts nums.length lot ≠ [] := fun z => by
      rw [z] at hb
      cases hb
    have low : leastLow (LOTS nums.length) nums ts lot = ((LOTS nums.length).find? (good nums ts lot)).getD [] := by
      unfold leastLow
      rw [if_neg h0]
    have dv2 := e2.dp dv1
    have dx2 := e2.dp dx1
    have dd2 := e2.dp dd
    refine s_forL (T := T) (K := K) (ds := (LOTS nums.length).map dLot) (el_callT ((e1.trans e2).2 tab) (ea_one (ed_lenLot (ed_web0 (ts := ts) (ed_var rfl dv2)))) ⟨nums.length, rfl, hle, rfl⟩)
      (fun p xs H3 i σ' H' => ∃ y3 : Option V, σ' = [some v, some x, some vd, y3, none, none] ∧ Stp T H2 H' ∧ Stp T H3 H' ∧ H' p = some (.lst xs) ∧ ∀ s ∈ (LOTS nums.length).take i, good nums ts lot s = false)
      (fun p xs H3 np e3 h3 dxs => ⟨none, rfl, e3, Stp.refl _, h3, fun s hs => by simp at hs⟩) (fun p xs H3 i σ' H' hP => by
        obtain ⟨_, _, _, _, h, _⟩ := hP
        exact h) (fun p xs H3 i y d σ' H' e3 dxs hx hd dy hP => ?_) (fun p xs H3 σ' H' e3 hP => ?_)
    · obtain ⟨y3, rfl, s2, s3, hp, hno⟩ := hP
      rw [List.getElem?_map] at hd
      cases hq : (LOTS nums.length)[i]? with
      | none => rw [hq] at hd; cases hd
      | some som =>
        rw [hq] at hd
        cases hd
        have LS : Lot nums.length som := LOTS_mem.mp (List.mem_of_getElem? hq)
        have hsl := LS.len
        have dy' := s3.dp dy
        have tk2 : (LOTS nums.length).take (i + 1) = (LOTS nums.length).take i ++ [som] := by rw [List.take_add_one, hq]; rfl
        have next : good nums ts lot som = false → ∀ H4, Stp T H' H4 → ∃ y3 : Option V, ([some v, some x, some vd, some y, none, none] : L2.St) = [some v, some x, some vd, y3, none, none] ∧ Stp T H2 H4 ∧ Stp T H3 H4 ∧ H4 p = some (.lst xs) ∧ ∀ s ∈ (LOTS nums.length).take (i + 1), good nums ts lot s = false := fun hg H4 e4 => by
          refine ⟨_, rfl, s2.trans e4, s3.trans e4, e4.lst hp, fun s hs => ?_⟩
          rw [tk2] at hs
          rcases List.mem_append.mp hs with z | z
          · exact hno s z
          · simp at z
            subst z
            exact hg
        refine s_if (T := T) (b := (som.map fun o => decide (o ∈ lot)).all id) (et_B (ed_all (K := K) (bs := som.map fun o => decide (o ∈ lot)) ((el_lc1m (j := 4) (vs := [4]) som PyData.int (fun o => PyData.bool (decide (o ∈ lot))) (eit_tup (ed_var rfl dy') (tupOnlyAll_map to_int _)).i (by omega) (fun _ => rfl)
          (fun o ho z H4 e4 dz => ed_in (ed_var (i := 4) rfl dz) (ed_var (i := 1) rfl ((s2.trans e4).dp dx2)) (.inl rfl)) (fun _ => rfl)).ed.is (by rw [map_bool])))) (fun hb1 H4 e4 => ?_) fun hb1 H4 e4 => ?_
        · have s4 := s2.trans e4
          refine s_if (T := T) (b := ((deep nums ts nums.length lot).map fun piece => hit ts lot som piece).all id) (et_B (ed_all (K := K) (bs := (deep nums ts nums.length lot).map fun piece => hit ts lot som piece) ((el_lc1m (j := 5) (vs := [5]) (deep nums ts nums.length lot) dLot (fun piece => PyData.bool (hit ts lot som piece)) (eit_tup (ed_var (i := 2) rfl (s4.dp dd2)) (tupOnlyAll_map to_lot _)).i (by omega) (fun _ => rfl)
            (fun piece hpi z H5 e5 dz => (ed_any (K := K) (bs := (border ts piece lot).map fun o => decide (o ∈ som)) ((el_lc1m (j := 4) (vs := [4]) (border ts piece lot) PyData.int (fun o => PyData.bool (decide (o ∈ som))) (eit_tup (ed_call (ea_cons (ed_var (i := 0) rfl ((s4.trans e5).dp dv2)) (ea_cons (ed_var (i := 5) rfl dz) (ea_one (ed_var (i := 1) rfl ((s4.trans e5).dp dx2))))) ⟨nums, ts, piece, lot, rfl, W.tlen, by omega, rfl⟩) (tupOnlyAll_map to_int _)).i (by
                have := border_len ts piece lot
                omega) (fun _ => rfl)
              (fun o ho z2 H6 e6 dz2 => ed_in (ed_var (i := 4) rfl dz2) (ed_var (i := 3) rfl ((e4.trans (e5.trans e6)).dp dy')) (.inl rfl)) (fun _ => rfl)).ed.is (by rw [map_bool]))).is (by rw [any_hit])) (fun _ => rfl)).ed.is (by rw [map_bool])))) (fun hb2 H5 e5 => ?_) fun hb2 H5 e5 => ?_
          · have hg : good nums ts lot som = true := by
              unfold good
              rw [all_decide, decide_eq_true_eq] at hb1 hb2
              rw [decide_eq_true_eq]
              exact ⟨fun o ho => of_decide_eq_true (hb1 o ho), hb2⟩
            have hf := find_first hno hq hg
            refine s_ret (T := T) (K := K) (d := dLot som) (ed_var (i := 3) rfl ((e4.trans e5).dp dy')) fun vv H6 e6 dvv => q vv H6 (e1.trans (e2.trans (s4.trans (e5.trans e6)))) ?_
            rw [low, hf]
            exact dvv
          · refine next ?_ H5 (e4.trans e5)
            unfold good
            rw [all_decide, decide_eq_false_iff_not] at hb2
            rw [decide_eq_false_iff_not]
            exact fun z => hb2 z.2
        · refine next ?_ H4 e4
          unfold good
          rw [all_decide, decide_eq_false_iff_not] at hb1
          rw [decide_eq_false_iff_not]
          exact fun z => hb1 fun o ho => decide_eq_true (z.1 o ho)
    · obtain ⟨y3, rfl, s2, s3, hp, hno⟩ := hP
      rw [List.length_map, List.take_length] at hno
      have hf : (LOTS nums.length).find? (good nums ts lot) = none := List.find?_eq_none.mpr fun s hs => by
        rw [hno s hs]
        decide
      refine s_ret (σ := [some v, some x, some vd, y3, none, none]) (T := T) (K := K) (d := dLot []) (ed_tup ea_nil (by decide)) fun vv H6 e6 dvv => q vv H6 (e1.trans (e2.trans (s2.trans e6))) ?_
      rw [low, hf]
      exact dvv)
theorem ok_fewest_lowered (F : Dfn K mg "fewest_lowered" sFewestLowered f fd ["web", "lot"]) (B : Blt mg) (cNeedWeb : Cal P w K mg base 4 "need_web" (SpD T K RNeedWeb)) (cNeedLot : Cal P w K mg base 3 "need_lot" (SpD T K RNeedLot)) (cLeastLoweredOf : Cal P w K mg base 5 "least_lowered_of" (SpDT T K RLeastLow)) :
    Cal P w K mg base 6 "fewest_lowered" (SpDT T K RFewestLow) := .of F (F.fn.ok scFewestLowered (fun vs H Q E h => spD_len (by rintro ds d ⟨_, _, _, rfl, _⟩; rfl) vs H Q E h.2) fun cdv A outer s H vs Q E hr h => by
  obtain ⟨tab, ds, d, hv, ⟨nums, ts, lot, rfl, W, L, rfl⟩, q⟩ := h
  obtain ⟨v, x, rfl, dv, dx⟩ := args2 hv
  refine ⟨_, (pss_cons (ps_expr (pe_k cNeedWeb hr (by decide) (by rfl) (pa_cons (pv 0) pa_nil)))
    (pss_cons (ps_expr (pe_k cNeedLot hr (by decide) (by rfl) (pa_cons (pv 0) (pa_cons (pv 1) pa_nil))))
    (pss_one (ps_ret (pe_callB (r := rLenS K) call_len_seq (by rfl) B.len PySem.boot_len (pa_cons (pe_k cLeastLoweredOf hr (by decide) (by rfl) (pa_cons (pv 0) (pa_cons (pv 1) pa_nil))) pa_nil)))))), ?_⟩
  refine s_drop (T := T) (K := K) (ed_call (ea_one (ed_var rfl dv)) ⟨nums, ts, rfl, W, rfl⟩) fun H1 e1 => ?_
  refine s_drop (T := T) (K := K) (ed_call (ea_cons (ed_var rfl (e1.dp dv)) (ea_one (ed_var rfl (e1.dp dx)))) ⟨nums, ts, lot, rfl, L, W.le, rfl⟩) fun H2 e2 => ?_
  have se := e1.trans e2
  exact s_ret (T := T) (K := K) (ed_lenLot (ed_callT (se.2 tab) (ea_cons (ed_var rfl (se.dp dv)) (ea_one (ed_var rfl (se.dp dx)))) ⟨nums, ts, lot, rfl, W, L, rfl⟩)) fun v H1 e dv => q v H1 (se.trans e) dv)
theorem ok_least_lowered (F : Dfn K mg "least_lowered" sLeastLowered f fd ["web", "lot"]) (B : Blt mg) (cNeedWeb : Cal P w K mg base 4 "need_web" (SpD T K RNeedWeb)) (cNeedLot : Cal P w K mg base 3 "need_lot" (SpD T K RNeedLot)) (cLeastLoweredOf : Cal P w K mg base 5 "least_lowered_of" (SpDT T K RLeastLow)) :
    Cal P w K mg base 6 "least_lowered" (SpDT T K RLeastLow) := .of F (F.fn.ok scLeastLowered (fun vs H Q E h => spD_len (by rintro ds d ⟨_, _, _, rfl, _⟩; rfl) vs H Q E h.2) fun cdv A outer s H vs Q E hr h => by
  obtain ⟨tab, ds, d, hv, ⟨nums, ts, lot, rfl, W, L, rfl⟩, q⟩ := h
  obtain ⟨v, x, rfl, dv, dx⟩ := args2 hv
  refine ⟨_, (pss_cons (ps_expr (pe_k cNeedWeb hr (by decide) (by rfl) (pa_cons (pv 0) pa_nil)))
    (pss_cons (ps_expr (pe_k cNeedLot hr (by decide) (by rfl) (pa_cons (pv 0) (pa_cons (pv 1) pa_nil))))
    (pss_one (ps_ret (pe_k cLeastLoweredOf hr (by decide) (by rfl) (pa_cons (pv 0) (pa_cons (pv 1) pa_nil))))))), ?_⟩
  refine s_drop (T := T) (K := K) (ed_call (ea_one (ed_var rfl dv)) ⟨nums, ts, rfl, W, rfl⟩) fun H1 e1 => ?_
  refine s_drop (T := T) (K := K) (ed_call (ea_cons (ed_var rfl (e1.dp dv)) (ea_one (ed_var rfl (e1.dp dx)))) ⟨nums, ts, lot, rfl, L, W.le, rfl⟩) fun H2 e2 => ?_
  have se := e1.trans e2
  exact s_ret (T := T) (K := K) (ed_callT (se.2 tab) (ea_cons (ed_var rfl (se.dp dv)) (ea_one (ed_var rfl (se.dp dx)))) ⟨nums, ts, lot, rfl, W, L, rfl⟩) fun v H1 e dv => q v H1 (se.trans e) dv)
end
end Dw

/-! The law's own ties, rest, border, parts, deep. -/
namespace Dw
open PySem PySem.Spec PyProof.Rows L2 LamX
open Classical
def RLawTies : List PyData → List PyData → Prop := fun ds es => ∃ (nums : List Int) (ts : Ties) (p : Int), ds = [dWeb nums ts, .int p] ∧ ts.length < 64 ∧ es = (sortI (nbr ts p)).map PyData.int
def RLawRest : List PyData → PyData → Prop := fun ds d => ∃ (nums : List Int) (ts : Ties) (lot : List Int), ds = [dWeb nums ts, dLot lot] ∧ nums.length ≤ 1000 ∧ d = dLot (rest nums.length lot)
def RLawBorder : List PyData → PyData → Prop := fun ds d => ∃ (nums : List Int) (ts : Ties) (part lot : List Int), ds = [dWeb nums ts, dLot part, dLot lot] ∧ ts.length < 64 ∧ lot.length ≤ 1000 ∧ d = dLot (border ts part lot)
def RLawParts : List PyData → List PyData → Prop := fun ds es => ∃ (nums : List Int) (ts : Ties) (lot : List Int), ds = [dWeb nums ts, dLot lot] ∧ lot.Pairwise (· < ·) ∧ ts.length < 64 ∧ lot.length < 64 ∧ es = (parts ts lot).map dLot
def RLawDeep : List PyData → List PyData → Prop := fun ds es => ∃ (nums : List Int) (ts : Ties) (lot : List Int), ds = [dWeb nums ts, dLot lot] ∧ Web nums ts ∧ Lot nums.length lot ∧ es = (deep nums ts nums.length lot).map dLot
theorem nbr_filter (ts : Ties) (p : Int) : (ts.filter fun t => decide (p ∈ [t.1, t.2])).map (fun t => PyData.int (t.1 + t.2 - p)) = (nbr ts p).map PyData.int := by
  unfold nbr
  rw [List.map_map]
  congr 1
  refine List.filter_congr fun t _ => ?_
  rw [Bool.eq_iff_iff, decide_eq_true_eq, Bool.or_eq_true, decide_eq_true_eq, decide_eq_true_eq]
  simp [eq_comm]
theorem filt_border {ts : Ties} {part : List Int} {one : Int} : (!(((sortI (nbr ts one)).filter fun o => decide (o ∈ part)).map PyData.int).isEmpty) = decide (∃ other ∈ part, Adj ts one other) := by
  rw [isEmpty_map, ← any_border, Bool.eq_iff_iff, List.any_eq_true]
  constructor
  · intro h
    cases hq : (sortI (nbr ts one)).filter fun o => decide (o ∈ part) with
    | nil => rw [hq] at h; cases h
    | cons a r =>
      obtain ⟨a1, a2⟩ := List.mem_filter.mp (show a ∈ (sortI (nbr ts one)).filter fun o => decide (o ∈ part) by rw [hq]; exact List.mem_cons_self)
      exact ⟨_, List.mem_map.mpr ⟨a, a1, rfl⟩, a2⟩
  · rintro ⟨b, hb, hb2⟩
    obtain ⟨o, ho, e⟩ := List.mem_map.mp hb
    subst e
    have h : o ∈ (sortI (nbr ts one)).filter fun o => decide (o ∈ part) := List.mem_filter.mpr ⟨ho, hb2⟩
    cases hq : (sortI (nbr ts one)).filter fun o => decide (o ∈ part) with
    | nil => rw [hq] at h; cases h
    | cons a r => rfl
section
variable {P : Program} {w : World} {K : PySem.W.Frag} {mg : Str → Option Value} {base : Heap} {T : List (Addr × Str)} {f : Addr} {fd : FuncData}
theorem ok_law_ties (F : Dfn K mg "_law_ties" sLawTies f fd ["_law_web_here", "_law_person"]) (B : Blt mg) : Cal P w K mg base 1 "_law_ties" (SpL T K RLawTies) := .of F (F.fn.ok scLawTies (spL_len (by rintro ds d ⟨_, _, _, rfl, _⟩; rfl)) fun cdv A outer s H vs Q E hr h => by
  obtain ⟨ds, es, hv, ⟨nums, ts, p, rfl, htl, rfl⟩, q⟩ := h
  obtain ⟨v, x, rfl, dv, dx⟩ := args2 hv
  refine ⟨_, (pss_one (ps_ret (pe_callB (r := rSorted K) cr_sorted (by rfl) B.sorted PyProof.Rows.boot_sorted (pa_cons (pe_lc (own := [("_law_one", 2), ("_law_other", 3)]) (wi := iTup K _) (g := (gTup K 2 (gCons (gName 2) (gCons (gName 3) gNil)))) rfl scLawTies.nd (pi_tup (pe_ix (r := rIxT K) ix_tup (pv 0) pe_int (fun _ _ => rfl))) (blkOk_by (by first | decide +kernel | kernel_rfl | rfl)) (fun _ _ _ _ _ => (pg_tup rfl (pgs_cons (pg_name (i := 2) scLawTies.nd rfl (by first | exact .inl rfl | exact .inr rfl)) (pgs_cons (pg_name (i := 3) scLawTies.nd rfl (by first | exact .inl rfl | exact .inr rfl)) pgs_nil)))) (fun _ _ _ _ _ => (pts_one (pt_cmpR (r := rIn K false) op_in_seq (pv 1) (pe_tup (pa_cons (pv 2) (pa_cons (pv 3) pa_nil))) (by rfl)))) (fun _ _ _ _ _ => (pe_op op_sub (pe_op op_add (pv 2) (pv 3)) (pv 1)))) pa_nil)))), ?_⟩
  have hl := nbr_len ts p
  exact s_retL (T := T) (K := K) (el_sorted (ns := nbr ts p) ((el_lc2 (j1 := 2) (j2 := 3) (vs := [2, 3]) ts (fun t => PyData.int t.1) (fun t => PyData.int t.2) (fun t => decide (p ∈ [t.1, t.2])) (fun t => PyData.int (t.1 + t.2 - p)) (eit_tup (ed_web1 (nums := nums) (ts := ts) (ed_var rfl dv)) (to_ties ts)).i (by omega) (fun _ _ => rfl)
    (fun a ha y z H1 e dy dz => et_test (ed_in (K := K) (ns := [a.1, a.2]) (ed_var (i := 1) rfl (e.dp dx)) (ed_tup (ea_cons (ed_var (i := 2) rfl dy) (ea_one (ed_var (i := 3) rfl dz))) (by show 2 ≤ 100000; decide)) (.inl rfl)))
    (fun a ha y z H1 e dy dz _ => ed_sub (ed_add (ed_var (i := 2) rfl dy) (ed_var (i := 3) rfl dz)) (ed_var (i := 1) rfl (e.dp dx))) (fun _ => rfl)).ed.is (by rw [nbr_filter])) (by omega)) fun p' xs H1 np e h1 dxs => q p' xs H1 np e h1 dxs)
theorem ok_law_rest (F : Dfn K mg "_law_rest" sLawRest f fd ["_law_web_here", "_law_lot_here"]) (B : Blt mg) : Cal P w K mg base 1 "_law_rest" (SpD T K RLawRest) := .of F (F.fn.ok scLawRest (spD_len (by rintro ds d ⟨_, _, _, rfl, _⟩; rfl)) fun cdv A outer s H vs Q E hr h => by
  obtain ⟨ds, d, hv, ⟨nums, ts, lot, rfl, hn, rfl⟩, q⟩ := h
  obtain ⟨v, x, rfl, dv, dx⟩ := args2 hv
  refine ⟨_, (pss_one (ps_ret (pe_tupleOf (by rfl) B.tuple (pe_lc (own := [("_law_person", 2)]) (wi := iRng1 _) (g := (gName 2)) rfl scLawRest.nd (pi_range1 (by rfl) B.range (pa_cons (pe_callB (r := rLenS K) call_len_seq (by rfl) B.len PySem.boot_len (pa_cons (pe_ix (r := rIxT K) ix_tup (pv 0) pe_int (fun _ _ => rfl)) pa_nil)) pa_nil)) (blkOk_by (by first | decide +kernel | kernel_rfl | rfl)) (fun _ _ _ _ _ => (pg_name (i := 2) scLawRest.nd rfl (by first | exact .inl rfl | exact .inr rfl))) (fun _ _ _ _ _ => (pts_one (pt_cmpR (r := rIn K true) op_notIn_seq (pv 2) (pv 1) (by rfl)))) (fun _ _ _ _ _ => (pv 2)))))), ?_⟩
  exact s_ret (T := T) (K := K) (ed_tupleOf (el_lc1 (everyone nums.length) PyData.int (fun x => decide (x ∉ lot)) PyData.int (eit_rng1 (n := (nums.length : Int)) (ea_one (ed_lenLot (ed_web0 (ts := ts) (ed_var rfl dv)))) (by omega) (by omega)).i (by rw [everyone_len]; omega) (fun _ => rfl)
    (fun a ha y H1 e dy => et_test (ed_notin (ed_var rfl dy) (ed_var rfl (e.dp dx)) (.inl rfl))) (fun a ha y H1 e dy _ => ed_var rfl dy) to_int).ed) fun v H1 e dv => q v H1 e dv)
theorem ok_law_border (F : Dfn K mg "_law_border" sLawBorder f fd ["_law_web_here", "_law_part", "_law_lot_here"]) (B : Blt mg) (cLawTies : Cal P w K mg base 1 "_law_ties" (SpL T K RLawTies)) : Cal P w K mg base 2 "_law_border" (SpD T K RLawBorder) := .of F (F.fn.ok scLawBorder (spD_len (by rintro ds d ⟨_, _, _, _, rfl, _⟩; rfl)) fun cdv A outer s H vs Q E hr h => by
  obtain ⟨ds, d, hv, ⟨nums, ts, part, lot, rfl, htl, hll, rfl⟩, q⟩ := h
  obtain ⟨v, x, z, rfl, dv, dx, dz⟩ := args3 hv
  refine ⟨_, (pss_one (ps_ret (pe_tupleOf (by rfl) B.tuple (pe_lc (own := [("_law_one", 3)]) (wi := iTup K _) (g := (gName 3)) rfl scLawBorder.nd (pi_tup (pv 2)) (blkOk_by (by first | decide +kernel | kernel_rfl | rfl)) (fun _ _ _ _ _ => (pg_name (i := 3) scLawBorder.nd rfl (by first | exact .inl rfl | exact .inr rfl))) (fun _ _ _ _ _ => (pts_one (pt_cmpR (r := rNeD K) (op_neD hr.units) (pe_lc (own := [("_law_other", 4)]) (wi := iList K _) (g := (gName 4)) rfl scLawBorder.nd (pi_list (pe_k cLawTies hr (by decide) (by rfl) (pa_cons (pv 0) (pa_cons (pv 3) pa_nil)))) (blkOk_by (by first | decide +kernel | kernel_rfl | rfl)) (fun _ _ _ _ _ => (pg_name (i := 4) scLawBorder.nd rfl (by first | exact .inl rfl | exact .inr rfl))) (fun _ _ _ _ _ => (pts_one (pt_cmpR (r := rIn K false) op_in_seq (pv 4) (pv 1) (by rfl)))) (fun _ _ _ _ _ => (pv 4))) (pe_lst pa_nil) (nomark _)))) (fun _ _ _ _ _ => (pv 3)))))), ?_⟩
  exact s_ret (T := T) (K := K) (d := dLot (border ts part lot)) (ed_tupleOf (el_lc1 lot PyData.int (fun one => decide (∃ other ∈ part, Adj ts one other)) PyData.int (eit_tup (ed_var rfl dz) (tupOnlyAll_map to_int _)).i (by omega) (fun _ => rfl)
    (fun a ha y H1 e dy => (et_test (ed_neNilL (K := K) (ds := ((sortI (nbr ts a)).filter fun o => decide (o ∈ part)).map PyData.int) (el_lc1 (j := 4) (vs := [4]) (sortI (nbr ts a)) PyData.int (fun o => decide (o ∈ part)) PyData.int (ei_lst (el_call (ea_cons (ed_var rfl (e.dp dv)) (ea_one (ed_var rfl dy))) ⟨nums, ts, a, rfl, htl, rfl⟩).ed) (by
      rw [sortI_len]
      have := nbr_len ts a
      omega) (fun _ => rfl) (fun o ho y2 H2 e2 dy2 => et_test (ed_in (ed_var (i := 4) rfl dy2) (ed_var (i := 1) rfl ((e.trans e2).dp dx)) (.inl rfl))) (fun o ho y2 H2 e2 dy2 _ => ed_var (i := 4) rfl dy2) to_int).ed (shaped_ints _).2)).is filt_border) (fun a ha y H1 e dy _ => ed_var rfl dy) to_int).ed) fun v H1 e dv => q v H1 e dv)
end
end Dw

/-! The law's own parts, deep. -/
namespace Dw
open PySem PySem.Spec PyProof.Rows L2 LamX
open Classical
section
variable {P : Program} {w : World} {K : PySem.W.Frag} {mg : Str → Option Value} {base : Heap} {T : List (Addr × Str)} {f : Addr} {fd : FuncData}
theorem ok_law_parts (F : Dfn K mg "_law_parts" sLawParts f fd ["_law_web_here", "_law_lot_here"]) (B : Blt mg) : Cal P w K mg base 1 "_law_parts" (SpL T K RLawParts) := .of F (F.fn.ok scLawParts (spL_len (by rintro ds d ⟨_, _, _, rfl, _⟩; rfl)) fun cdv A outer s H vs Q E hr h => by
  obtain ⟨ds, es, hv, ⟨nums, ts, lot, rfl, hso, htl, hll, rfl⟩, q⟩ := h
  obtain ⟨v, x, rfl, dv, dx⟩ := args2 hv
  refine ⟨_, (pss_cons (ps_par (i := 2) (j := 3) rfl scLawParts.nd rfl rfl (by decide) rfl rfl (pa_cons (pe_lst pa_nil) (pa_cons (pe_callTy (r := rListS K) call_list_of (by rfl) B.list PyProof.Rows.boot_list (pa_cons (pv 1) pa_nil)) pa_nil)) (by rfl))
    (pss_cons (ps_while PassesOwn.never (pt_cmpR (r := rNeD K) (op_neD hr.units) (pv 3) (pe_lst pa_nil) (nomark _))
      (pss_cons (ps_set (i := 4) scLawParts.nd rfl (by first | exact .inl rfl | exact .inr rfl) (pe_lst (pa_cons (pe_ix (r := rIxL K) ix_list (pv 3) pe_int (fun _ _ => rfl)) pa_nil)))
    (pss_cons (ps_for PassesOwn.never rfl (pi_range1 (by rfl) B.range (pa_cons (pe_callB (r := rLenS K) call_len_seq (by rfl) B.len PySem.boot_len (pa_cons (pv 3) pa_nil)) pa_nil)) (pg_name (i := 5) scLawParts.nd rfl (by first | exact .inl rfl | exact .inr rfl))
      (pss_one (ps_for PassesOwn.never rfl (pi_tup (pe_ix (r := rIxT K) ix_tup (pv 0) pe_int (fun _ _ => rfl))) (pg_tup rfl (pgs_cons (pg_name (i := 6) scLawParts.nd rfl (by first | exact .inl rfl | exact .inr rfl)) (pgs_cons (pg_name (i := 7) scLawParts.nd rfl (by first | exact .inl rfl | exact .inr rfl)) pgs_nil)))
      (pss_one (ps_if (PW.pt (pw_and (pt_cmpR (r := rIn K false) op_in_seq (pv 6) (pv 1) (by rfl)) (pw_and (pt_cmpR (r := rIn K false) op_in_seq (pv 7) (pv 1) (by rfl)) (pw_and1 (pt_cmpR op_ne (pe_cmpR (r := rIn K false) op_in_seq (pv 6) (pv 4) (by rfl)) (pe_cmpR (r := rIn K false) op_in_seq (pv 7) (pv 4) (by rfl)) (nomark _))))))
      (pss_one (ps_set (i := 4) scLawParts.nd rfl (by first | exact .inl rfl | exact .inr rfl) (pe_op op_cat (pv 4) (pe_lst (pa_cons (pe_ifExp (pt_cmpR (r := rIn K false) op_in_seq (pv 6) (pv 4) (by rfl)) (pv 7) (pv 6)) pa_nil)))))
      pss_nil)))))
    (pss_cons (ps_expr (pe_bm PySem.F.plainAttrs_list PySem.F.slot_list_append PySem.F.type_list_append mt_append (pv 2) (pa_cons (pe_tupleOf (by rfl) B.tuple (pe_callB (r := rSorted K) cr_sorted (by rfl) B.sorted PyProof.Rows.boot_sorted (pa_cons (pv 4) pa_nil))) pa_nil)))
    (pss_one (ps_setLc (i := 3) rfl scLawParts.nd rfl rfl (sw_true rfl rfl rfl (by decide +kernel)) (own := [("_law_person", 8)]) (wi := iList K _) (g := (gName 8)) (pi_list (pv 3)) (blkOk_by (by first | decide +kernel | kernel_rfl | rfl)) (fun _ _ _ _ _ => (pg_name (i := 8) scLawParts.nd rfl (by first | exact .inl rfl | exact .inr rfl))) (fun _ _ _ _ _ => (pts_one (pt_cmpR (r := rIn K true) op_notIn_seq (pv 8) (pv 4) (by rfl)))) (fun _ _ _ _ _ => (pv 8))))))))
    (pss_one (ps_ret (pv 2))))), ?_⟩
  refine ⟨Nat.zero_le _, fun lf nf => ?_⟩
  have s0 : Stp T H (upd H lf (.lst [])) := .new nf
  refine (el_listOf (T := T) (K := K) (σ := start ["_law_web_here", "_law_lot_here", "_law_found", "_law_left", "_law_some", "_law_turn", "_law_one", "_law_other", "_law_person"] [v, x]) (ed_var (i := 1) rfl (s0.dp dx))) _ (Stp.refl _) _ fun ll xs H1 np e1 hl dxs => ?_
  obtain rfl := dpAll_int dxs
  refine ⟨_, _, rfl, ?_⟩
  refine s_while (T := T) (fun m σ' H' => ∃ (done : List (List Int)) (left : List Int) (ll : Addr) (xs : List V) (y4 y5 y6 y7 y8 : Option V), σ' = [some v, some x, some (.ref lf), some (.ref ll), y4, y5, y6, y7, y8] ∧ Stp T H H' ∧ ll ≠ lf ∧ H' lf = some (.lst xs) ∧ DpAll K H' xs (done.map dLot) ∧ H' ll = some (.lst (left.map V.int)) ∧
      done ++ parts ts left = parts ts lot ∧ LeftOf ts lot left ∧ done.length + left.length ≤ lot.length ∧ m = left.length) lot.length ⟨[], lot, ll, [], none, none, none, none, none, rfl, s0.trans e1, np lf [] upd_same, e1.lst upd_same, .nil, hl, rfl, .start hso, by show 0 + lot.length ≤ lot.length; omega, rfl⟩ fun m σ' H' hW => ?_
  obtain ⟨done, left, ll, xs, y4, y5, y6, y7, y8, rfl, sH, hne, hf, dxs, hl, hpa, hlo, hlen, hm⟩ := hW
  refine ⟨!(left.map PyData.int).isEmpty, et_test (ed_neNilL (K := K) (ds := left.map PyData.int) (ed_var rfl (dp_ls hl)) (shaped_ints left).2), fun hb H1 e1 => ?_, fun hb H1 e1 => ?_⟩
  · rw [isEmpty_map] at hb
    obtain ⟨a, r, rfl⟩ : ∃ a r, left = a :: r := by
      cases left with
      | nil => cases hb
      | cons a r => exact ⟨a, r, rfl⟩
    have sH1 := sH.trans e1
    have hl1 := e1.lst hl
    have haL : a ∈ lot := hlo.2.1 a List.mem_cons_self
    rw [List.length_cons] at hlen hm
    refine ⟨fun σ2 H2 => ∃ m', m' < m ∧ ∃ (done : List (List Int)) (left : List Int) (ll : Addr) (xs : List V) (y4 y5 y6 y7 y8 : Option V), σ2 = [some v, some x, some (.ref lf), some (.ref ll), y4, y5, y6, y7, y8] ∧ Stp T H H2 ∧ ll ≠ lf ∧ H2 lf = some (.lst xs) ∧ DpAll K H2 xs (done.map dLot) ∧ H2 ll = some (.lst (left.map V.int)) ∧
      done ++ parts ts left = parts ts lot ∧ LeftOf ts lot left ∧ done.length + left.length ≤ lot.length ∧ m' = left.length, fun _ _ h => h, ?_⟩
    refine s_asgL (T := T) (K := K) (ds := [PyData.int a]) (el_lst (ea_one (ed_ixL (ds := (a :: r).map PyData.int) (ed_var rfl (dp_ls hl1)) ed_int (by decide) rfl)) (by show 1 ≤ 100000; decide)) fun ps xs0 H2 np2 e2 h2 dxs0 => ?_
    have hx0 : xs0 = [V.int a] := dpAll_int (ns := [a]) dxs0
    subst hx0
    have n2 : ps ≠ lf := np2 lf xs (e1.lst hf)
    have sH2 := sH1.trans e2
    have hl2 := e2.lst hl1
    refine s_for (T := T) (K := K) (eit_rng1 (n := ((a :: r).length : Int)) (ea_one (ed_lenLs (ed_var (i := 3) rfl (dp_ls hl2)))) (by omega) (by rw [List.length_cons]; omega)) (fun H3 k σ' H' => ∃ (s : List Int) (ls : Addr) (y5 y6 y7 : Option V), σ' = [some v, some x, some (.ref lf), some (.ref ll), some (.ref ls), y5, y6, y7, y8] ∧ ls ≠ lf ∧ Stp T H2 H' ∧ Stp T H3 H' ∧ H' ls = some (.lst (s.map V.int)) ∧ PassK ts lot a k s)
      (fun H3 e3 => ⟨[a], ps, _, _, _, rfl, n2, e3, Stp.refl _, e3.lst h2, .start⟩) (fun H3 i σ' H' e h => by
        obtain ⟨_, _, _, _, _, _, _, _, h, _⟩ := h
        exact h.tk) (fun H3 k d0 x0 σ' H' H'' e3 hd hp s3 dx0 => ?_) fun H3 σ' H' e3 hp => ?_
    · obtain ⟨s0, ls0, y5', y6', y7', rfl, hn3, t2, t3, hs0, hK⟩ := hp
      have hs0' := s3.lst hs0
      have t2' := t2.trans s3
      refine s_for (T := T) (K := K) (eit_tup (ed_web1 (nums := nums) (ts := ts) (ed_var (i := 0) rfl ((sH2.trans t2').dp dv))) (to_ties ts)) (fun H4 i σ' H' => ∃ (s : List Int) (ls : Addr) (y6 y7 : Option V), σ' = [some v, some x, some (.ref lf), some (.ref ll), some (.ref ls), some x0, y6, y7, y8] ∧ ls ≠ lf ∧ Stp T H'' H' ∧ Stp T H4 H' ∧ H' ls = some (.lst (s.map V.int)) ∧ PassJ ts (ts.take i) lot a s0 s)
        (fun H4 e4 => ⟨s0, ls0, _, _, rfl, hn3, e4, Stp.refl _, e4.lst hs0', .start hK.1⟩) (fun H4 i σ' H' e h => by
          obtain ⟨_, _, _, _, _, _, _, h, _⟩ := h
          exact h.tk) (fun H4 i d1 x1 σ' H5 H6 e4 hd1 hp s6 dx1 => ?_) fun H4 σ' H5 e4 hp => ?_
      · obtain ⟨sm, ls, y6'', y7'', rfl, hn4, u2, u3, hs, hJ⟩ := hp
        rw [List.getElem?_map] at hd1
        cases hq : ts[i]? with
        | none => rw [hq] at hd1; cases hd1
        | some t =>
          rw [hq] at hd1
          cases hd1
          obtain ⟨b, z1, z2, rfl, hb6, dz1, dz2⟩ := dp_pair dx1
          obtain rfl := dp_int dz1
          obtain rfl := dp_int dz2
          refine ⟨b, _, rfl, hb6, rfl, _, _, rfl, _, _, rfl, rfl, ?_⟩
          have tk2 : ts.take (i + 1) = ts.take i ++ [t] := by rw [List.take_add_one, hq]; rfl
          have hs6 := s6.lst hs
          have u6 := u2.trans s6
          have dx6 := (sH2.trans (t2'.trans u6)).dp dx
          have hsl : sm.length ≤ lot.length := nodup_len hJ.1.nd fun y hy => (hJ.1.sub y hy).mem haL
          refine s_if (T := T) (b := decide (t.1 ∈ lot) && (decide (t.2 ∈ lot) && !decide (decide (t.1 ∈ sm) = decide (t.2 ∈ sm)))) (et_and (et_test (ed_in (K := K) (ns := lot) (ed_var (i := 6) rfl (.int t.1)) (ed_var (i := 1) rfl dx6) (.inl rfl))) fun _ => et_and (et_test (ed_in (K := K) (ns := lot) (ed_var (i := 7) rfl (.int t.2)) (ed_var (i := 1) rfl dx6) (.inl rfl))) fun _ =>
            et_test (ed_neB (K := K) (ed_in (K := K) (ns := sm) (ed_var (i := 6) rfl (.int t.1)) (ed_var (i := 4) rfl (dp_ls hs6)) (.inr rfl)) (ed_in (K := K) (ns := sm) (ed_var (i := 7) rfl (.int t.2)) (ed_var (i := 4) rfl (dp_ls hs6)) (.inr rfl)))) (fun hb H7 e7 => ?_) (fun hb H7 e7 => ?_)
          · obtain ⟨b1, b23⟩ := Bool.and_eq_true_iff.mp hb
            obtain ⟨b2, b3⟩ := Bool.and_eq_true_iff.mp b23
            rw [decide_eq_true_eq] at b1 b2
            have hs7 := e7.lst hs6
            refine s_asgL (T := T) (K := K) (ds := sm.map PyData.int ++ [PyData.int (otherEnd t sm)]) (el_cat (l := ls) rfl hs7 (dpAll_ints sm) (el_lst (ea_one (ed_if (b := decide (t.1 ∈ sm)) (et_test (ed_in (K := K) (ns := sm) (ed_var (i := 6) rfl (.int t.1)) (ed_var (i := 4) rfl (dp_ls hs7)) (.inr rfl)))
              (fun hb => (ed_var (i := 7) rfl (.int t.2)).is (by
                rw [decide_eq_true_eq] at hb
                unfold otherEnd
                rw [if_pos hb])) (fun hb => (ed_var (i := 6) rfl (.int t.1)).is (by
                rw [decide_eq_false_iff_not] at hb
                unfold otherEnd
                rw [if_neg hb])))) (by show 1 ≤ 100000; decide)) (by
                  rw [List.length_map]
                  show sm.length + 1 ≤ 100000
                  omega)) fun p' ys H8 np8 e8 h8 dys => ?_
            have hys : ys = (sm ++ [otherEnd t sm]).map V.int := dpAll_int (by rw [List.map_append]; exact dys)
            subst hys
            refine ⟨sm ++ [otherEnd t sm], p', _, _, rfl, ?_, u6.trans (e7.trans e8), u3.trans (s6.trans (e7.trans e8)), h8, ?_⟩
            · exact np8 lf xs ((t2'.trans (u6.trans e7)).lst ((e1.trans e2).lst hf))
            · rw [tk2]
              refine hJ.add (List.mem_of_getElem? hq) b1 b2 fun z => ?_
              have : decide (t.1 ∈ sm) = decide (t.2 ∈ sm) := decide_eq_decide.mpr z
              rw [this] at b3
              simp at b3
          · refine ⟨sm, ls, _, _, rfl, hn4, u6.trans e7, u3.trans (s6.trans e7), e7.lst hs6, ?_⟩
            rw [tk2]
            refine hJ.skip fun b1 b2 => ?_
            rw [decide_eq_true b1, decide_eq_true b2, Bool.true_and, Bool.true_and, Bool.not_eq_false', decide_eq_true_eq] at hb
            exact decide_eq_decide.mp hb
      · obtain ⟨sm, ls, y6'', y7'', rfl, hn4, u2, u3, hs, hJ⟩ := hp
        rw [List.length_map, List.take_length] at hJ
        exact ⟨sm, ls, _, _, _, rfl, hn4, t2'.trans u2, t3.trans (s3.trans u2), hs, PassJ.fin hK hJ⟩
    · obtain ⟨sm, ls, y5', y6', y7', rfl, hn3, t2, t3, hs, hK⟩ := hp
      have hlc : ((everyone ((a :: r).length : Int).toNat).map PyData.int).length = (a :: r).length := by
        rw [List.length_map, everyone_len]
        exact Int.toNat_natCast _
      rw [hlc] at hK
      have hc : sortI sm = comp ts (a :: r) a := by
        rw [← hlo.comp hso List.mem_cons_self]
        exact hK.done hso haL (fun y hy => hlo.reach List.mem_cons_self hy) (sortI_perm sm) (sortI_sort sm)
      have hsl : sm.length ≤ lot.length := nodup_len hK.1.nd fun y hy => (hK.1.sub y hy).mem haL
      have hmc : ∀ y, y ∈ sm ↔ y ∈ comp ts (a :: r) a := fun y => by
        rw [← hc]
        exact (sortI_perm sm).mem_iff.symm
      have hfx := (e1.trans (e2.trans t2)).lst hf
      refine s_push (T := T) (K := K) (d := dLot (sortI sm)) (i := 2) (l := lf) rfl hfx (ed_tupleOf (el_sorted (ns := sm) (ed_var (i := 4) rfl (dp_ls hs)) (by omega)).ed) (by
        have := DpAll.length dxs
        rw [List.length_map] at this
        omega) fun pv' H3 e3 dp' hl3 => ?_
      have s3 := sH2.trans (t2.trans e3)
      have s4 : Stp T H (upd H3 lf (.lst (xs ++ [pv']))) := s3.mut nf (LD.l hl3)
      have tkm : Tk H3 (upd H3 lf (.lst (xs ++ [pv']))) := Tk.mut (LD.mut (LD.l hl3))
      have hl4 : (upd H3 lf (.lst (xs ++ [pv']))) ll = some (.lst ((a :: r).map V.int)) := by
        rw [upd_ne hne]
        exact e3.lst (t2.lst hl2)
      have hs4 : (upd H3 lf (.lst (xs ++ [pv']))) ls = some (.lst (sm.map V.int)) := by
        rw [upd_ne hn3]
        exact e3.lst hs
      refine s_asgL (T := T) (K := K) (ds := (without ts (a :: r) a).map PyData.int) ((el_lc1 (j := 8) (vs := [8]) (a :: r) PyData.int (fun y => decide (y ∉ sm)) PyData.int (ei_lst (ed_var (i := 3) rfl (dp_ls hl4))) (by rw [List.length_cons]; omega) (fun _ => rfl)
        (fun b hb y H5 e5 dy => et_test (ed_notin (ed_var (i := 8) rfl dy) (ed_var (i := 4) rfl (e5.dp (dp_ls hs4))) (.inr rfl))) (fun b hb y H5 e5 dy _ => ed_var (i := 8) rfl dy) to_int).is (by
          unfold without
          congr 1
          exact List.filter_congr fun y _ => decide_eq_decide.mpr (not_congr (hmc y)))) fun p' ys H5 np' e5 h5 dys => ?_
      obtain rfl := dpAll_int dys
      have hwl := without_len (ts := ts) (x := a) (r := r)
      refine ⟨(without ts (a :: r) a).length, by omega, done ++ [comp ts (a :: r) a], without ts (a :: r) a, p', xs ++ [pv'], _, _, _, _, _, rfl, s4.trans e5, np' lf _ upd_same, e5.lst upd_same, ?_, h5, ?_, hlo.next, ?_, rfl⟩
      · rw [List.map_append]
        rw [hc] at dp'
        exact DpAll.snoc (e5.dp (tkm.dp (to_lot _) dp')) (e5.dpAll (tkm.dpAll (tupOnlyAll_map to_lot _) ((e1.trans (e2.trans (t2.trans e3))).dpAll dxs)))
      · rw [List.append_assoc, List.singleton_append, ← parts_cons]
        exact hpa
      · rw [List.length_append]
        show done.length + 1 + _ ≤ _
        omega
  · rw [isEmpty_map] at hb
    have he0 : left = [] := by
      cases left with
      | nil => rfl
      | cons a b => cases hb
    subst he0
    rw [parts_nil, List.append_nil] at hpa
    subst hpa
    exact ⟨_, rfl, q lf xs _ (.of nf) (sH.trans e1) (e1.lst hf) (e1.dpAll dxs)⟩)
theorem ok_law_deep (F : Dfn K mg "_law_deep" sLawDeep f fd ["_law_web_here", "_law_lot_here"]) (B : Blt mg) (cLawRest : Cal P w K mg base 1 "_law_rest" (SpD T K RLawRest)) (cLawParts : Cal P w K mg base 1 "_law_parts" (SpL T K RLawParts)) (cLawBorder : Cal P w K mg base 2 "_law_border" (SpD T K RLawBorder)) : Cal P w K mg base 3 "_law_deep" (SpL T K RLawDeep) := .of F (F.fn.ok scLawDeep (spL_len (by rintro ds d ⟨_, _, _, rfl, _⟩; rfl)) fun cdv A outer s H vs Q E hr h => by
  obtain ⟨ds, es, hv, ⟨nums, ts, lot, rfl, W, L, rfl⟩, q⟩ := h
  obtain ⟨v, x, rfl, dv, dx⟩ := args2 hv
  refine ⟨_, (pss_cons (ps_set (i := 2) scLawDeep.nd rfl (by first | exact .inl rfl | exact .inr rfl) (pe_lst pa_nil))
    (pss_cons (ps_for PassesOwn.never rfl (pi_list (pe_k cLawParts hr (by decide) (by rfl) (pa_cons (pv 0) (pa_cons (pe_k cLawRest hr (by decide) (by rfl) (pa_cons (pv 0) (pa_cons (pv 1) pa_nil))) pa_nil)))) (pg_name (i := 3) scLawDeep.nd rfl (by first | exact .inl rfl | exact .inr rfl))
      (pss_cons (ps_set (i := 4) scLawDeep.nd rfl (by first | exact .inl rfl | exact .inr rfl) (pe_callB (r := rMin K) (cr_min rfl) (by rfl) B.min PyProof.Rows.boot_min (pa_cons (pe_lc (own := [("_law_one", 5)]) (wi := iTup K _) (g := (gName 5)) rfl scLawDeep.nd (pi_tup (pv 3)) (blkOk_by (by first | decide +kernel | kernel_rfl | rfl)) (fun _ _ _ _ _ => (pg_name (i := 5) scLawDeep.nd rfl (by first | exact .inl rfl | exact .inr rfl))) (fun _ _ _ _ _ => pts_nil) (fun _ _ _ _ _ => (pe_ix (r := rIxT K) ix_tup (pe_ix (r := rIxT K) ix_tup (pv 0) pe_int (fun _ _ => rfl)) (pv 5) (fun _ _ => rfl)))) pa_nil)))
    (pss_one (ps_if (pt_cmpR op_lt (pv 4) (pe_callB (r := rMin K) (cr_min rfl) (by rfl) B.min PyProof.Rows.boot_min (pa_cons (pe_lc (own := [("_law_one", 5)]) (wi := iTup K _) (g := (gName 5)) rfl scLawDeep.nd (pi_tup (pe_k cLawBorder hr (by decide) (by rfl) (pa_cons (pv 0) (pa_cons (pv 3) (pa_cons (pv 1) pa_nil))))) (blkOk_by (by first | decide +kernel | kernel_rfl | rfl)) (fun _ _ _ _ _ => (pg_name (i := 5) scLawDeep.nd rfl (by first | exact .inl rfl | exact .inr rfl))) (fun _ _ _ _ _ => pts_nil) (fun _ _ _ _ _ => (pe_ix (r := rIxT K) ix_tup (pe_ix (r := rIxT K) ix_tup (pv 0) pe_int (fun _ _ => rfl)) (pv 5) (fun _ _ => rfl)))) pa_nil)) (nomark _))
      (pss_one (ps_expr (pe_bm PySem.F.plainAttrs_list PySem.F.slot_list_append PySem.F.type_list_append mt_append (pv 2) (pa_cons (pv 3) pa_nil))))
      pss_nil))))
    (pss_one (ps_ret (pv 2))))), ?_⟩
  have hle := W.le
  have hrl := rest_len nums.length lot
  have hll := L.len
  have hpl := parts_len (ts := ts) _ (Nat.le_refl (rest nums.length lot).length)
  refine s_nil (H := H) fun l nl => ?_
  have s0 : Stp T H (upd H l (.lst [])) := .new nl
  refine s_forL (T := T) (K := K) (ds := (parts ts (rest nums.length lot)).map dLot) (el_call (ea_cons (ed_var rfl (s0.dp dv)) (ea_one (ed_call (ea_cons (ed_var rfl (s0.dp dv)) (ea_one (ed_var rfl (s0.dp dx)))) ⟨nums, ts, lot, rfl, by omega, rfl⟩))) ⟨nums, ts, rest nums.length lot, rfl, rest_sort _ _, W.tlen, by omega, rfl⟩)
    (fun p xs H1 i σ' H' => ∃ (y3 y4 : Option V) (ys : List V), σ' = [some v, some x, some (.ref l), y3, y4, none] ∧ Stp T H H' ∧ Tk H1 H' ∧ H' p = some (.lst xs) ∧ p ≠ l ∧ H' l = some (.lst ys) ∧ DpAll K H' ys (((((parts ts (rest nums.length lot)).take i)).filter (deep1 nums ts lot)).map dLot))
    (fun p xs H1 np e1 h1 dxs => ⟨none, none, [], rfl, s0.trans e1, Tk.refl _, h1, np l [] upd_same, e1.lst upd_same, .nil⟩) (fun p xs H1 i σ' H' hP => by
      obtain ⟨_, _, _, _, _, _, h, _⟩ := hP
      exact h) (fun p xs H1 i y d σ' H' e1 dxs hx hd dy hP => ?_) (fun p xs H1 σ' H' e1 hP => ?_)
  · obtain ⟨y3, y4, ys, rfl, sH, tk, hp, hn, hl, dys⟩ := hP
    rw [List.getElem?_map] at hd
    cases hq : (parts ts (rest nums.length lot))[i]? with
    | none => rw [hq] at hd; cases hd
    | some piece =>
      rw [hq] at hd
      cases hd
      have hpm := List.mem_of_getElem? hq
      obtain ⟨p1, p2, p3⟩ := piece_mem hpm
      have hbl := border_len ts piece lot
      have dy' := tk.dp (to_lot _) dy
      have dv' := sH.dp dv
      have dx' := sH.dp dx
      have tk2 : (parts ts (rest nums.length lot)).take (i + 1) = (parts ts (rest nums.length lot)).take i ++ [piece] := by rw [List.take_add_one, hq]; rfl
      refine s_asg (T := T) (K := K) (d := .int (minL (piece.map (num nums)))) (ed_min (ns := piece.map (num nums)) ((el_lc1m (j := 5) (vs := [5]) piece PyData.int (fun a => PyData.int (num nums a)) (eit_tup (ed_var (i := 3) rfl dy') (tupOnlyAll_map to_int _)).i (by omega) (fun _ => rfl)
        (fun a ha y H1 e dy => ed_ixT (ds := nums.map PyData.int) (ed_web0 (ts := ts) (ed_var rfl (e.dp dv'))) (ed_var (i := 5) rfl dy) (p3 a ha).1 (by rw [List.getElem?_map, num_get (p3 a ha).1 (p3 a ha).2]; rfl)) (fun _ => rfl)).ed.is (by
          show _ = PyData.list ((piece.map (num nums)).map PyData.int)
          rw [List.map_map]
          rfl)) (fun z => p1 (List.map_eq_nil_iff.mp z))) fun vl H2 e2 dl => ?_
      obtain rfl := dp_int dl
      have hb3 : ∀ a ∈ border ts piece lot, 0 ≤ a ∧ a < nums.length := fun a ha => L.mem a (mem_border.mp ha).1
      have dv2 := e2.dp dv'
      have dx2 := e2.dp dx'
      have dy2 := e2.dp dy'
      refine s_if (T := T) (b := deep1 nums ts lot piece) (et_test (ed_lt (K := K) (ed_var (i := 4) rfl (.int _)) (ed_min (ns := (border ts piece lot).map (num nums)) ((el_lc1m (j := 5) (vs := [5]) (border ts piece lot) PyData.int (fun a => PyData.int (num nums a)) (eit_tup (ed_call (ea_cons (ed_var (i := 0) rfl dv2) (ea_cons (ed_var (i := 3) rfl dy2) (ea_one (ed_var (i := 1) rfl dx2)))) ⟨nums, ts, piece, lot, rfl, W.tlen, by omega, rfl⟩) (tupOnlyAll_map to_int _)).i (by omega) (fun _ => rfl)
        (fun a ha y H1 e dy => ed_ixT (ds := nums.map PyData.int) (ed_web0 (ts := ts) (ed_var rfl (e.dp dv2))) (ed_var (i := 5) rfl dy) (hb3 a ha).1 (by rw [List.getElem?_map, num_get (hb3 a ha).1 (hb3 a ha).2]; rfl)) (fun _ => rfl)).ed.is (by
          show _ = PyData.list (((border ts piece lot).map (num nums)).map PyData.int)
          rw [List.map_map]
          rfl)) (fun z => border_ne W L hpm (List.map_eq_nil_iff.mp z))))) (fun hb H3 e3 => ?_) (fun hb H3 e3 => ?_)
      · have s3 := sH.trans (e2.trans e3)
        refine s_push (T := T) (K := K) (d := dLot piece) (i := 2) (l := l) rfl ((e2.trans e3).lst hl) (ed_var (i := 3) rfl (e3.dp dy2)) (by
          have h1 := DpAll.length dys
          rw [List.length_map] at h1
          have h2 := List.length_filter_le (deep1 nums ts lot) ((parts ts (rest nums.length lot)).take i)
          rw [List.length_take] at h2
          omega) fun vv H4 e4 dvv hl4 => ?_
        have tkm : Tk H4 (upd H4 l (.lst (ys ++ [vv]))) := Tk.mut (LD.mut (LD.l hl4))
        refine ⟨_, _, ys ++ [vv], rfl, (s3.trans e4).mut nl (LD.l hl4), (tk.trans (e2.trans (e3.trans e4)).tk).trans tkm, ?_, hn, upd_same, ?_⟩
        · rw [upd_ne hn]
          exact (e2.trans (e3.trans e4)).lst hp
        · rw [tk2, List.filter_append, List.map_append, List.filter_cons_of_pos hb]
          exact DpAll.snoc (tkm.dp (to_lot _) dvv) (tkm.dpAll (tupOnlyAll_map to_lot _) ((e2.trans (e3.trans e4)).dpAll dys))
      · refine ⟨_, _, ys, rfl, sH.trans (e2.trans e3), tk.trans (e2.trans e3).tk, (e2.trans e3).lst hp, hn, (e2.trans e3).lst hl, ?_⟩
        rw [tk2, List.filter_append, List.filter_cons_of_neg (by rw [hb]; decide)]
        simpa using (e2.trans e3).dpAll dys
  · obtain ⟨y3, y4, ys, rfl, sH, tk, hp, hn, hl, dys⟩ := hP
    rw [List.length_map, List.take_length] at dys
    exact ⟨_, rfl, q l ys _ (.of nl) sH hl dys⟩)
end
end Dw

/-! The law's own lots. -/
namespace Dw
open PySem PySem.Spec PyProof.Rows L2 LamX
def RLawLots : List PyData → List PyData → Prop := fun ds es => ∃ n : Nat, ds = [.int n] ∧ n ≤ 7 ∧ es = (LOTS n).map dLot
theorem sort_filter {α : Type} {le : α → α → Bool} (h : PySem.W.TotalLe le) (p : α → Bool) (l : List α) : (l.mergeSort le).filter p = (l.filter p).mergeSort le := by
  refine PySem.W.sort_unique h ((PySem.W.sort_pairwise h l).filter p) fun c => ?_
  rw [List.filter_filter, List.filter_filter]
  have e : ∀ m : List α, (m.filter fun a => PySem.W.sameRank le c a && p a) = (m.filter (PySem.W.sameRank le c)).filter p := fun m => by
    rw [List.filter_filter]
    exact List.filter_congr fun a _ => Bool.and_comm _ _
  rw [e, e, PySem.W.sort_stable h]
/-- the lots by (size, lot), those of size 0 left out -/
theorem lots_sorted (n : Nat) : ((subs n).mergeSort (PySem.W.dataLe false keyD)).filter (fun l => decide ((0 : Int) < (l.length : Int))) = LOTS n := by
  rw [sort_filter (le := PySem.W.dataLe false keyD) (PySem.W.sortLe_total _ _ _)]
  unfold LOTS
  congr 1
  refine List.filter_congr fun l _ => ?_
  cases l with
  | nil => rfl
  | cons a r =>
    rw [List.length_cons]
    show decide ((0 : Int) < ((r.length + 1 : Nat) : Int)) = true
    rw [decide_eq_true_eq]
    omega
section
variable {P : Program} {w : World} {K : PySem.W.Frag} {mg : Str → Option Value} {base : Heap} {T : List (Addr × Str)} {f : Addr} {fd : FuncData} {σ : L2.St} {H : Hp} {te ta tb : TE} {ds es : List PyData} {d : PyData}
/-- x + y of tuples -/
theorem ed_catA (ha : ED T K ta σ H (.tuple ds)) (hb : ED T K tb σ H (.tuple es)) (hz : ds.length + es.length ≤ 100000) : ED T K (tOp (rCatA K) ta tb) σ H (.tuple (ds ++ es)) := fun H1 e Q q =>
  ha H1 e _ fun v H2 e2 dv => hb H2 (e.trans e2) _ fun w H3 e3 dw => by
    obtain ⟨a, xs, rfl, k1, k2⟩ := dp_tup (e3.dp dv)
    obtain ⟨b, ys, rfl, k3, k4⟩ := dp_tup dw
    refine ⟨a, b, xs, ys, rfl, rfl, k1, k3, by rw [DpAll.length k2, DpAll.length k4]; exact sz_small hz, fun z => ?_, fun _ z => ?_, fun _ _ p hp => ?_⟩
    · subst z
      cases k2
      exact q _ H3 (e2.trans e3) dw
    · subst z
      cases k4
      rw [List.append_nil] at q
      exact q _ H3 (e2.trans e3) (e3.dp dv)
    · exact q _ _ (e2.trans (e3.upd hp)) (.tup (.inl (.inl upd_same)) ((Stp.new (T := T) hp).dpAll (DpAll.append k4 k2)))
/-- sorted of keyed lots -/
theorem el_sortedKey {ls : List (List Int)} (h : ED T K te σ H (.list (ls.map keyD))) : EL T K (tCB (rSortedD K) (tCons te tNil)) σ H ((ls.mergeSort (PySem.W.dataLe false keyD)).map keyD) := fun H1 e Q q =>
  h H1 e _ fun v H2 e2 dv => by
    obtain ⟨p, xs, rfl, h1, h2⟩ := dp_lst dv
    refine ⟨p, xs, _, rfl, h1, h2, fun d hd d' hd' => ?_, .inl fun d hd => ?_, fun d hd => ?_, fun ys p' dys hp' => ?_⟩
    · obtain ⟨l, _, rfl⟩ := List.mem_map.mp hd
      obtain ⟨m, _, rfl⟩ := List.mem_map.mp hd'
      exact alike_key l m
    · obtain ⟨l, _, rfl⟩ := List.mem_map.mp hd
      exact ⟨_, _, rfl⟩
    · obtain ⟨l, _, rfl⟩ := List.mem_map.mp hd
      exact depth_key l
    · have e4 : (ls.mergeSort (PySem.W.dataLe false keyD)).map keyD = (ls.map keyD).mergeSort (PySem.W.dataLe false id) := PySem.W.sort_maps keyD fun a _ b _ => rfl
      rw [e4] at q
      exact q p' ys _ (.back e2 (.of hp')) (e2.upd hp') upd_same ((Stp.new (T := T) hp').dpAll dys)
theorem ok_law_lots (F : Dfn K mg "_law_lots" sLawLots f fd ["_law_many"]) (B : Blt mg) : Cal P w K mg base 1 "_law_lots" (SpL T K RLawLots) := .of F (F.fn.ok scLawLots (spL_len (by rintro ds d ⟨_, rfl, _⟩; rfl)) fun cdv A outer s H vs Q E hr h => by
  obtain ⟨ds, es, hv, ⟨n, rfl, hn, rfl⟩, q⟩ := h
  obtain ⟨v, rfl, dv⟩ := args1 hv
  obtain rfl := dp_int dv
  refine ⟨_, (pss_cons (ps_set (i := 1) scLawLots.nd rfl (by first | exact .inl rfl | exact .inr rfl) (pe_lst (pa_cons (pe_tup pa_nil) pa_nil)))
    (pss_cons (ps_for PassesOwn.never rfl (pi_range1 (by rfl) B.range (pa_cons (pv 0) pa_nil)) (pg_name (i := 2) scLawLots.nd rfl (by first | exact .inl rfl | exact .inr rfl))
      (pss_one (ps_set (i := 1) scLawLots.nd rfl (by first | exact .inl rfl | exact .inr rfl) (pe_op op_cat (pv 1) (pe_lc (own := [("_law_lot_here", 3)]) (wi := iList K _) (g := (gName 3)) rfl scLawLots.nd (pi_list (pv 1)) (blkOk_by (by first | decide +kernel | kernel_rfl | rfl)) (fun _ _ _ _ _ => (pg_name (i := 3) scLawLots.nd rfl (by first | exact .inl rfl | exact .inr rfl))) (fun _ _ _ _ _ => pts_nil) (fun _ _ _ _ _ => (pe_op (r := rCatA K) op_catA (pv 3) (pe_tup (pa_cons (pv 2) pa_nil)))))))))
    (pss_one (ps_ret (pe_lc (own := [("_law_size", 4), ("_law_lot_here", 3)]) (wi := iList K _) (g := (gTup K 2 (gCons (gName 4) (gCons (gName 3) gNil)))) rfl scLawLots.nd (pi_list (pe_callB (r := rSortedD K) (cr_sortedD hr.units) (by rfl) B.sorted PyProof.Rows.boot_sorted (pa_cons (pe_lc (own := [("_law_lot_here", 3)]) (wi := iList K _) (g := (gName 3)) rfl scLawLots.nd (pi_list (pv 1)) (blkOk_by (by first | decide +kernel | kernel_rfl | rfl)) (fun _ _ _ _ _ => (pg_name (i := 3) scLawLots.nd rfl (by first | exact .inl rfl | exact .inr rfl))) (fun _ _ _ _ _ => pts_nil) (fun _ _ _ _ _ => (pe_tup (pa_cons (pe_callB (r := rLenS K) call_len_seq (by rfl) B.len PySem.boot_len (pa_cons (pv 3) pa_nil)) (pa_cons (pv 3) pa_nil))))) pa_nil))) (blkOk_by (by first | decide +kernel | kernel_rfl | rfl)) (fun _ _ _ _ _ => (pg_tup rfl (pgs_cons (pg_name (i := 4) scLawLots.nd rfl (by first | exact .inl rfl | exact .inr rfl)) (pgs_cons (pg_name (i := 3) scLawLots.nd rfl (by first | exact .inl rfl | exact .inr rfl)) pgs_nil)))) (fun _ _ _ _ _ => (pts_one (pt_cmpR op_gt (pv 4) pe_int (nomark _)))) (fun _ _ _ _ _ => (pv 3))))))), ?_⟩
  refine s_asgL (T := T) (K := K) (ds := [dLot []]) (el_lst (ea_one (ed_tup ea_nil (by decide))) (by decide)) fun l0 xs0 H1 np e1 h1 dxs => ?_
  refine s_for (T := T) (K := K) (eit_rng1 (n := (n : Int)) (ea_one (ed_var rfl (.int (n : Int)))) (by omega) (by omega)) (fun H2 i σ' H' => ∃ (l : Addr) (xs : List V) (y2 : Option V), σ' = [some (.int (n : Int)), some (.ref l), y2, none, none] ∧ Stp T H H' ∧ Stp T H2 H' ∧ H' l = some (.lst xs) ∧ DpAll K H' xs ((subs i).map dLot))
    (fun H2 e2 => ⟨l0, xs0, none, rfl, e1.trans e2, Stp.refl _, e2.lst h1, e2.dpAll dxs⟩) (fun H2 i σ' H' e h => by
      obtain ⟨_, _, _, _, _, h, _⟩ := h
      exact h.tk) (fun H2 i d0 x0 σ' H' H'' e2 hd hp s2 dx0 => ?_) fun H2 σ' H' e2 hp => ?_
  · obtain ⟨l, xs, y2, rfl, sH, s2', hl, dxs⟩ := hp
    rw [ints_get] at hd
    by_cases hi : i < (n : Int).toNat
    · rw [if_pos hi] at hd
      cases hd
      obtain rfl := dp_int dx0
      have hl2 := s2.lst hl
      have dxs2 := s2.dpAll dxs
      have hsl := subs_len i
      have hpow : 2 ^ i ≤ 2 ^ 7 := Nat.pow_le_pow_right (by decide) (by omega)
      refine s_asgL (T := T) (K := K) (ds := (subs i).map dLot ++ (subs i).map fun l => dLot (l ++ [(i : Int)])) (el_cat (l := l) rfl hl2 dxs2 (el_lc1m (subs i) dLot (fun l => dLot (l ++ [(i : Int)])) (ei_lst (ed_var (i := 1) rfl (.lst (.inl (.inl hl2)) dxs2))) (by omega) (fun _ => rfl)
        (fun a ha y H3 e3 dy => (ed_catA (ed_var (i := 3) rfl dy) (ed_tup (ea_one (ed_var (i := 2) rfl (.int (i : Int)))) (by show 1 ≤ 100000; decide)) (by
          rw [List.length_map]
          have h1 := (Lot.len (n := 8) (lot := a ++ [7]) ?_)
          · have h2 : ([7] : List Int).length = 1 := rfl
            rw [List.length_append] at h1
            show a.length + 1 ≤ 100000
            omega
          · obtain ⟨a1, a2⟩ := subs_mem.mp ha
            refine ⟨by simp, List.pairwise_append.mpr ⟨a1, by simp, fun x hx z hz => ?_⟩, fun x hx => ?_⟩
            · simp at hz
              have := a2 x hx
              omega
            · rcases List.mem_append.mp hx with q | q
              · have := a2 x q
                omega
              · simp at q
                omega)).is (by
          show PyData.tuple (a.map PyData.int ++ [.int (i : Int)]) = PyData.tuple ((a ++ [(i : Int)]).map PyData.int)
          rw [List.map_append]
          rfl)) (fun a => to_lot _)) (by
            rw [List.length_map, List.length_map]
            omega)) fun l' ys H3 np' e3 h3 dys => ?_
      refine ⟨l', ys, _, rfl, sH.trans (s2.trans e3), s2'.trans (s2.trans e3), h3, ?_⟩
      have e4 : (subs (i + 1)).map dLot = (subs i).map dLot ++ (subs i).map fun l => dLot (l ++ [(i : Int)]) := by
        show (subs i ++ (subs i).map fun l => l ++ [(i : Int)]).map dLot = _
        rw [List.map_append, List.map_map]
        rfl
      rw [e4]
      exact dys
    · rw [if_neg hi] at hd
      cases hd
  · obtain ⟨l, xs, y2, rfl, sH, s2', hl, dxs⟩ := hp
    have e5 : ((everyone (n : Int).toNat).map PyData.int).length = n := by
      rw [List.length_map, everyone_len]
      omega
    rw [e5] at dxs
    have hsl := subs_len n
    have hpow : 2 ^ n ≤ 2 ^ 7 := Nat.pow_le_pow_right (by decide) hn
    refine s_retL (T := T) (K := K) (ds := (LOTS n).map dLot) ((el_lc2 (j1 := 4) (j2 := 3) (vs := [4, 3]) ((subs n).mergeSort (PySem.W.dataLe false keyD)) (fun l => PyData.int (l.length : Int)) dLot (fun l => decide ((0 : Int) < (l.length : Int))) dLot
      (ei_lst (el_sortedKey (ls := subs n) ((el_lc1m (j := 3) (vs := [3]) (subs n) dLot keyD (ei_lst (ed_var (i := 1) rfl (.lst (.inl (.inl hl)) dxs))) (by omega) (fun _ => rfl)
        (fun a ha y H3 e3 dy => ed_tup (ea_cons (ed_lenLot (ed_var (i := 3) rfl dy)) (ea_one (ed_var (i := 3) rfl dy))) (by show 2 ≤ 100000; decide)) (fun a => by
          show (true && (tupOnly (dLot a) && true)) = true
          rw [to_lot]
          rfl)).ed)).ed) (by
        rw [List.length_mergeSort]
        omega) (fun _ _ => rfl) (fun a ha y z H3 e3 dy dz => et_test (ed_gt (K := K) (ed_var (i := 4) rfl dy) ed_int)) (fun a ha y z H3 e3 dy dz _ => ed_var (i := 3) rfl dz) to_lot).is (by rw [lots_sorted])) fun p' zs H3 np' e3 h3 dzs => q p' zs H3 (.back sH np') (sH.trans e3) h3 dzs)
end
end Dw

/-! The law's own alike. -/
namespace Dw
open PySem PySem.Spec PyProof.Rows L2 LamX
/-- ints in lists and tuples, less than n deep -/
def okD : Nat → PyData → Prop
  | 0, _ => False
  | n + 1, x => (∃ i, x = .int i) ∨ ∃ xs, (x = .tuple xs ∨ x = .list xs) ∧ xs.length ≤ 1000 ∧ ∀ y ∈ xs, okD n y
theorem okD_int (n : Nat) (i : Int) : okD (n + 1) (.int i) := .inl ⟨i, rfl⟩
theorem okD_lot (n : Nat) (l : List Int) (h : l.length ≤ 1000) : okD (n + 2) (dLot l) := .inr ⟨_, .inl rfl, by rw [List.length_map]; exact h, fun y hy => by
  obtain ⟨i, _, rfl⟩ := List.mem_map.mp hy
  exact okD_int n i⟩
theorem okD_ties (n : Nat) (ts : Ties) (h : ts.length ≤ 1000) : okD (n + 3) (dTies ts) := .inr ⟨_, .inl rfl, by rw [List.length_map]; exact h, fun y hy => by
  obtain ⟨t, _, rfl⟩ := List.mem_map.mp hy
  exact okD_lot n [t.1, t.2] (by show 2 ≤ 1000; decide)⟩
theorem okD_web (nums : List Int) (ts : Ties) (h1 : nums.length ≤ 1000) (h2 : ts.length ≤ 1000) : okD 4 (dWeb nums ts) := .inr ⟨_, .inl rfl, by show 2 ≤ 1000; decide, fun y hy => by
  rcases List.mem_cons.mp hy with z | z
  · subst z
    exact okD_lot 1 nums h1
  · obtain rfl := List.mem_singleton.mp z
    exact okD_ties 0 ts h2⟩
theorem okD_pair (i : Int) (l : List Int) (h : l.length ≤ 1000) : okD 4 (.list [.int i, dLot l]) := .inr ⟨_, .inr rfl, by show 2 ≤ 1000; decide, fun y hy => by
  rcases List.mem_cons.mp hy with z | z
  · subst z
    exact okD_int 2 i
  · obtain rfl := List.mem_singleton.mp z
    exact okD_lot 1 l h⟩
def RAlike (n : Nat) : List PyData → PyData → Prop := fun ds d => ∃ x, ds = [x, x] ∧ okD n x ∧ d = .bool true
theorem kit_it : kitB "int" "tuple" = some false := by decide +kernel
theorem kit_il : kitB "int" "list" = some false := by decide +kernel
theorem kit_is : kitB "int" "str" = some false := by decide +kernel
theorem kit_tl : kitB "tuple" "list" = some false := by decide +kernel
theorem kit_lt : kitB "list" "tuple" = some false := by decide +kernel
theorem kit_ll : kitB "list" "list" = some true := by decide +kernel
section
variable {P : Program} {w : World} {K : PySem.W.Frag} {mg : Str → Option Value} {base : Heap} {T : List (Addr × Str)} {f : Addr} {fd : FuncData} {σ : L2.St} {H : Hp} {te ta tb : TE} {ds es : List PyData} {d : PyData}
/-- a sequence as data -/
def SqX (ds : List PyData) (d : PyData) : Prop := d = .tuple ds ∨ d = .list ds
theorem ed_ixS {d0 : PyData} {i : Int} (hs : SqX ds d) (ha : ED T K ta σ H d) (hb : ED T K tb σ H (.int i)) (h0 : 0 ≤ i) (hd : ds[i.toNat]? = some d0) : ED T K (tOp (rIx K) ta tb) σ H d0 := by
  rcases hs with rfl | rfl
  · intro H1 e Q q
    exact ha H1 e _ fun v H2 e2 dv => hb H2 (e.trans e2) _ fun w H3 e3 dw => by
      obtain ⟨p, xs, rfl, h1, h2⟩ := dp_tup (e3.dp dv)
      rw [dp_int dw]
      obtain ⟨x, hx, dx⟩ := DpAll.getD h2 hd
      exact .inr (.inl ⟨p, xs, i, x, rfl, rfl, h1, at_of (by omega) hx, q x H3 (e2.trans e3) dx⟩)
  · intro H1 e Q q
    exact ha H1 e _ fun v H2 e2 dv => hb H2 (e.trans e2) _ fun w H3 e3 dw => by
      obtain ⟨p, xs, rfl, h1, h2⟩ := dp_lst (e3.dp dv)
      rw [dp_int dw]
      obtain ⟨x, hx, dx⟩ := DpAll.getD h2 hd
      exact .inl ⟨p, xs, i, x, rfl, rfl, h1, at_of (by omega) hx, q x H3 (e2.trans e3) dx⟩
theorem ed_lenX (hs : SqX ds d) (h : ED T K te σ H d) : ED T K (tCB (rLenS K) (tCons te tNil)) σ H (.int ds.length) := by
  rcases hs with rfl | rfl
  · exact ed_lenT h
  · exact ed_lenL h
theorem et_isNon (h : ED T K te σ H d) (hd : d ≠ .none) : ET T (tTest (tOp (fun x y H Q => y = V.non ∧ Q (.bl (decide (x = V.non))) H) te (tC .non))) σ H false := fun H1 e Q q => h H1 e _ fun v H2 e2 dv => by
  have hn : v ≠ V.non := fun z => by
    subst z
    cases dv
    exact hd rfl
  refine ⟨rfl, false, ?_, q H2 e2⟩
  rw [decide_eq_false hn]
theorem alike_step {n : Nat} (F : Dfn K mg "_law_alike" sLawAlike f fd ["_law_found", "_law_due"]) (B : Blt mg) (cLawAlike : Cal P w K mg base n "_law_alike" (SpD T K (RAlike n))) : Cal P w K mg base (n + 1) "_law_alike" (SpD T K (RAlike (n + 1))) := .of F (F.fn.ok scLawAlike (spD_len (by rintro ds d ⟨_, rfl, _⟩; rfl)) fun cdv A outer s H vs Q E hr h => by
  obtain ⟨ds, d, hv, ⟨x, rfl, ho, rfl⟩, q⟩ := h
  obtain ⟨v, y, rfl, dv, dy⟩ := args2 hv
  refine ⟨_, (pss_cons (ps_if (pt_val (pe_callB (r := rIsiT K) call_isiT (by rfl) B.isinst PyProof.Rows.boot_isinstance (pa_cons (pv 1) (pa_cons (pe_tup (pa_cons (pe_bltn (v := .ty "tuple") (by rfl) B.tuple PyProof.Rows.boot_tuple rfl) (pa_cons (pe_bltn (v := .ty "list") (by rfl) B.list PyProof.Rows.boot_list rfl) pa_nil))) pa_nil))))
      (pss_cons (ps_if (PW.pt (pw_or (pt_not (pt_val (pe_callB (r := rIsiT K) call_isiT (by rfl) B.isinst PyProof.Rows.boot_isinstance (pa_cons (pv 0) (pa_cons (pe_tup (pa_cons (pe_bltn (v := .ty "tuple") (by rfl) B.tuple PyProof.Rows.boot_tuple rfl) (pa_cons (pe_bltn (v := .ty "list") (by rfl) B.list PyProof.Rows.boot_list rfl) pa_nil))) pa_nil))))) (pw_or1 (pt_cmpR op_ne (pe_callB (r := rIsi K) call_isi (by rfl) B.isinst PyProof.Rows.boot_isinstance (pa_cons (pv 0) (pa_cons (pe_bltn (v := .ty "list") (by rfl) B.list PyProof.Rows.boot_list rfl) pa_nil))) (pe_callB (r := rIsi K) call_isi (by rfl) B.isinst PyProof.Rows.boot_isinstance (pa_cons (pv 1) (pa_cons (pe_bltn (v := .ty "list") (by rfl) B.list PyProof.Rows.boot_list rfl) pa_nil))) (nomark _)))))
      (pss_one (ps_ret pe_bl))
      pss_nil)
    (pss_cons (ps_if (pt_cmpR op_ne (pe_callB (r := rLenS K) call_len_seq (by rfl) B.len PySem.boot_len (pa_cons (pv 0) pa_nil)) (pe_callB (r := rLenS K) call_len_seq (by rfl) B.len PySem.boot_len (pa_cons (pv 1) pa_nil)) (nomark _))
      (pss_one (ps_ret pe_bl))
      pss_nil)
    (pss_one (ps_ret (pe_cmpR (r := rEqD K) (op_eqD hr.units) (pe_lc (own := [("_law_k", 2)]) (wi := iRng1 _) (g := (gName 2)) rfl scLawAlike.nd (pi_range1 (by rfl) B.range (pa_cons (pe_callB (r := rLenS K) call_len_seq (by rfl) B.len PySem.boot_len (pa_cons (pv 1) pa_nil)) pa_nil)) (blkOk_by (by first | decide +kernel | kernel_rfl | rfl)) (fun _ _ _ _ _ => (pg_name (i := 2) scLawAlike.nd rfl (by first | exact .inl rfl | exact .inr rfl))) (fun _ _ _ _ _ => (pts_one (pt_not (pt_val (pe_k cLawAlike hr (Nat.le_refl _) (by rfl) (pa_cons (pe_ix (r := rIx K) ix_seq (pv 0) (pv 2) (fun _ _ => rfl)) (pa_cons (pe_ix (r := rIx K) ix_seq (pv 1) (pv 2) (fun _ _ => rfl)) pa_nil))))))) (fun _ _ _ _ _ => (pv 2))) (pe_lst pa_nil) (nomark _))))))
      pss_nil)
    (pss_cons (ps_if (PW.pt (pw_or (pt_cmpR op_isN (pv 1) pe_non (by rfl)) (pw_or1 (pt_val (pe_callB (r := rIsi K) call_isi (by rfl) B.isinst PyProof.Rows.boot_isinstance (pa_cons (pv 1) (pa_cons (pe_bltn (v := .ty "str") (by rfl) B.str PyProof.Rows.boot_str rfl) pa_nil)))))))
      (pss_one (ps_ret (pe_and (pe_cmpR op_eq (pv 0) (pv 1) (nomark _)) (pe_one (pe_cmpR op_eq (pe_callB (r := rIsi K) call_isi (by rfl) B.isinst PyProof.Rows.boot_isinstance (pa_cons (pv 0) (pa_cons (pe_bltn (v := .ty "str") (by rfl) B.str PyProof.Rows.boot_str rfl) pa_nil))) (pe_callB (r := rIsi K) call_isi (by rfl) B.isinst PyProof.Rows.boot_isinstance (pa_cons (pv 1) (pa_cons (pe_bltn (v := .ty "str") (by rfl) B.str PyProof.Rows.boot_str rfl) pa_nil))) (nomark _))))))
      pss_nil)
    (pss_one (ps_ret (pe_and (pe_callB (r := rIsi K) call_isi (by rfl) B.isinst PyProof.Rows.boot_isinstance (pa_cons (pv 0) (pa_cons (pe_bltn (v := .ty "int") (by rfl) B.int PyProof.Rows.boot_int rfl) pa_nil))) (pe_and (pe_cmpR op_eq (pe_callB (r := rIsi K) call_isi (by rfl) B.isinst PyProof.Rows.boot_isinstance (pa_cons (pv 0) (pa_cons (pe_bltn (v := .ty "bool") (by rfl) B.bool PyProof.Rows.boot_bool rfl) pa_nil))) (pe_callB (r := rIsi K) call_isi (by rfl) B.isinst PyProof.Rows.boot_isinstance (pa_cons (pv 1) (pa_cons (pe_bltn (v := .ty "bool") (by rfl) B.bool PyProof.Rows.boot_bool rfl) pa_nil))) (nomark _)) (pe_one (pe_cmpR op_eq (pv 0) (pv 1) (nomark _))))))))), ?_⟩
  rcases ho with ⟨i, rfl⟩ | ⟨xs, hx, hl, hxs⟩
  · refine s_if (T := T) (b := false || false) (et_B (ed_isiTL (K := K) (d := .int i) (ed_var (i := 1) rfl dy) kit_it kit_il)) (fun b => absurd b (by decide)) fun _ H1 e1 => ?_
    refine s_if (T := T) (b := false || false) (et_or (et_isNon (ed_var (i := 1) rfl (e1.dp dy)) (by simp)) fun _ => et_B (ed_isi (K := K) (d := .int i) (ed_var (i := 1) rfl (e1.dp dy)) kit_is)) (fun b => absurd b (by decide)) fun _ H2 e2 => ?_
    have se := e1.trans e2
    exact s_ret (T := T) (K := K) (d := .bool true) ((ed_andV (ed_isi (d := .int i) (ed_var (i := 0) rfl (se.dp dv)) kit_ii) fun _ => ed_andV (ed_eqB (ed_isi (d := .int i) (ed_var (i := 0) rfl (se.dp dv)) kit_ib) (ed_isi (d := .int i) (ed_var (i := 1) rfl (se.dp dy)) kit_ib)) fun _ => ed_eqI (ed_var (i := 0) rfl (se.dp dv)) (ed_var (i := 1) rfl (se.dp dy))).is (by simp)) fun vv H3 e3 dvv => q vv H3 (se.trans e3) dvv
  · obtain ⟨b1, b2, k1, k2, hb⟩ : ∃ b1 b2, kitB (tyD x) "tuple" = some b1 ∧ kitB (tyD x) "list" = some b2 ∧ (b1 || b2) = true := by
      rcases hx with rfl | rfl
      · exact ⟨true, false, kit_tt, kit_tl, rfl⟩
      · exact ⟨false, true, kit_lt, kit_ll, rfl⟩
    refine s_if (T := T) (b := b1 || b2) (et_B (ed_isiTL (K := K) (d := x) (ed_var (i := 1) rfl dy) k1 k2)) (fun _ H1 e1 => ?_) fun z => absurd (z.symm.trans hb) (by decide)
    refine s_if (T := T) (b := !(b1 || b2) || !decide (b2 = b2)) (et_or (et_not (et_B (ed_isiTL (K := K) (d := x) (ed_var (i := 0) rfl (e1.dp dv)) k1 k2))) fun _ => et_test (ed_neB (K := K) (ed_isi (d := x) (ed_var (i := 0) rfl (e1.dp dv)) k2) (ed_isi (d := x) (ed_var (i := 1) rfl (e1.dp dy)) k2))) (fun z => by
      rw [hb] at z
      simp at z) fun _ H2 e2 => ?_
    have s2 := e1.trans e2
    refine s_if (T := T) (b := !decide ((xs.length : Int) = xs.length)) (et_test (ed_neI (K := K) (ed_lenX (ds := xs) hx (ed_var (i := 0) rfl (s2.dp dv))) (ed_lenX (ds := xs) hx (ed_var (i := 1) rfl (s2.dp dy))))) (fun z => by simp at z) fun _ H3 e3 => ?_
    have s3 := s2.trans e3
    refine s_ret (T := T) (K := K) (d := .bool true) ((ed_eqNilL (K := K) (ds := ((everyone xs.length).filter fun _ => false).map PyData.int) (el_lc1 (j := 2) (vs := [2]) (everyone xs.length) PyData.int (fun _ => false) PyData.int
      (eit_rng1 (n := (xs.length : Int)) (ea_one (ed_lenX (ds := xs) hx (ed_var (i := 1) rfl (s3.dp dy)))) (by omega) (by omega)).i (by rw [everyone_len]; omega) (fun _ => rfl)
      (fun a ha z H4 e4 dz => by
        obtain ⟨a1, a2⟩ := everyone_mem.mp ha
        have hlt : a.toNat < xs.length := by omega
        have hg : xs[a.toNat]? = some xs[a.toNat] := List.getElem?_eq_getElem hlt
        exact et_not (a := true) (et_B (ed_call (K := K) (R := RAlike n) (d := .bool true) (ea_cons (ed_ixS hx (ed_var (i := 0) rfl ((s3.trans e4).dp dv)) (ed_var (i := 2) rfl dz) a1 hg) (ea_one (ed_ixS hx (ed_var (i := 1) rfl ((s3.trans e4).dp dy)) (ed_var (i := 2) rfl dz) a1 hg))) ⟨_, rfl, hxs _ (List.getElem_mem hlt), rfl⟩))) (fun a ha y H1 e dy z => absurd z (by decide)) to_int).ed (by
        rw [List.filter_eq_nil_iff.mpr (fun _ _ => by decide)]
        exact shaped_nilL)).is (by
        rw [List.filter_eq_nil_iff.mpr (fun _ _ => by decide)]
        rfl)) fun vv H5 e5 dvv => q vv H5 (s3.trans e5) dvv
)
theorem alike_zero (F : Dfn K mg "_law_alike" sLawAlike f fd ["_law_found", "_law_due"]) : Cal P w K mg base 0 "_law_alike" (SpD T K (RAlike 0)) :=
  .of F ⟨spD_len (by rintro ds d ⟨_, rfl, _⟩; rfl), fun _ _ _ _ _ _ _ _ _ _ _ _ _ h => by
    obtain ⟨_, _, _, ⟨_, _, z, _⟩, _⟩ := h
    exact z.elim⟩
theorem ok_law_alike (F : Dfn K mg "_law_alike" sLawAlike f fd ["_law_found", "_law_due"]) (B : Blt mg) : Cal P w K mg base 4 "_law_alike" (SpD T K (RAlike 4)) :=
  alike_step F B (alike_step F B (alike_step F B (alike_step F B (alike_zero F))))
end
end Dw

/-! The law's own taken. -/
namespace Dw
open PySem PySem.Spec PyProof.Rows L2 LamX
/-- the script, whatever stands in the row -/
def Scr (K : PySem.W.Frag) (H : Hp) (r a : Addr) (ns : List Int) : Prop := SqL K H a (ns.map V.int) ∧ ns.length ≤ 63 ∧ ∀ H', (∀ b, b ≠ r → H' b = H b) → SqL K H' a (ns.map V.int)
/-- a row: the script, the place, the sum, the rest -/
def RowAt (K : PySem.W.Frag) (r a : Addr) (ns : List Int) (H : Hp) : Prop := Scr K H r a ns ∧ ∃ i k m : Int, H r = some (.lst [.ref a, .int i, .int k, .int m]) ∧ 0 ≤ i ∧ 0 ≤ k ∧ k < 2147483647 ∧ 0 ≤ m
theorem Scr.same {K : PySem.W.Frag} {H H' : Hp} {r a : Addr} {ns : List Int} (s : Scr K H r a ns) (e : ∀ b, b ≠ r → H' b = H b) : Scr K H' r a ns :=
  ⟨s.2.2 H' e, s.2.1, fun H2 e2 => s.2.2 H2 fun b hb => (e2 b hb).trans (e b hb)⟩
/-- what a def promises that takes from the row -/
def SpTk (K : PySem.W.Frag) : Sp := fun vs H Q _ => ∃ (r a : Addr) (ns : List Int) (many : Int), vs = [.ref r, .int many] ∧ RowAt K r a ns H ∧ 1 ≤ many ∧ many ≤ 1000 ∧
  ∀ (v : Int) (H' : Hp), 0 ≤ v → v < many → RowAt K r a ns H' → (∀ b, b ≠ r → H' b = H b) → Q (.int v) H'
/-! ### plain evaluation -/
def EV (te : TE) (σ : L2.St) (H : Hp) (v : V) : Prop := ∀ Q : VK, Q v H → te σ H Q
section
variable {P : Program} {w : World} {K : PySem.W.Frag} {mg : Str → Option Value} {base : Heap} {T : List (Addr × Str)} {f : Addr} {fd : FuncData} {σ : L2.St} {H : Hp} {te ta tb : TE} {v x y : V} {i j : Int}
theorem ev_var {k : Nat} (h : σ[k]? = some (some v)) : EV (tVar k) σ H v := fun Q q => ⟨v, h, q⟩
theorem ev_c : EV (tC v) σ H v := fun Q q => q
theorem ev_ixL {p : Addr} {xs : List V} (ha : EV ta σ H (.ref p)) (hb : EV tb σ H (.int i)) (hs : SqL K H p xs) (h0 : 0 ≤ i) (hx : xs[i.toNat]? = some v) : EV (tOp (rIxL K) ta tb) σ H v := fun Q q =>
  ha _ (hb _ ⟨p, xs, i, v, rfl, rfl, hs, at_of (by omega) hx, q⟩)
theorem ev_I0 {g : Int → Int → V} (ha : EV ta σ H (.int i)) (hb : EV tb σ H (.int j)) : EV (tOp (rI0 g) ta tb) σ H (g i j) := fun Q q => ha _ (hb _ ⟨i, j, rfl, rfl, q⟩)
theorem ev_I {C : Int → Int → Prop} {g : Int → Int → V} (ha : EV ta σ H (.int i)) (hb : EV tb σ H (.int j)) (hc : C i j) : EV (tOp (rI C g) ta tb) σ H (g i j) := fun Q q => ha _ (hb _ ⟨i, j, rfl, rfl, hc, q⟩)
theorem ev_int1 (ha : EV ta σ H (.int i)) : EV (tCB (fun xs H Q => (∃ i, xs = [V.int i] ∧ Q (.int i) H) ∨ ∃ k, xs = [V.bl k] ∧ Q (.int (if k then 1 else 0)) H) (tCons ta tNil)) σ H (.int i) := fun Q q => ha _ (.inl ⟨i, rfl, q⟩)
theorem ev_lenL {p : Addr} {xs : List V} (ha : EV ta σ H (.ref p)) (hs : SqL K H p xs) : EV (tCB (rLenS K) (tCons ta tNil)) σ H (.int xs.length) := fun Q q => ha _ ⟨p, xs, rfl, .inl hs, q⟩
theorem ev_add (ha : EV ta σ H (.int i)) (hb : EV tb σ H (.int j)) : EV (tOp (rI0 fun i j => .int (i + j)) ta tb) σ H (.int (i + j)) := ev_I0 (g := fun i j => .int (i + j)) ha hb
theorem ev_mul (ha : EV ta σ H (.int i)) (hb : EV tb σ H (.int j)) (hc : CMul i j) : EV (tOp (rI CMul fun i j => .int (i * j)) ta tb) σ H (.int (i * j)) := ev_I (g := fun i j => .int (i * j)) ha hb hc
theorem ev_mod (ha : EV ta σ H (.int i)) (hb : EV tb σ H (.int j)) (hc : j ≠ 0) : EV (tOp (rI (fun _ j => j ≠ 0) fun i j => .int (i.fmod j)) ta tb) σ H (.int (i.fmod j)) := ev_I (C := fun _ j => j ≠ 0) (g := fun i j => .int (i.fmod j)) ha hb hc
theorem ev_fdiv (ha : EV ta σ H (.int i)) (hb : EV tb σ H (.int j)) (hc : CDivN i j) : EV (tOp (rI CDivN fun i j => .int (i.fdiv j)) ta tb) σ H (.int (i.fdiv j)) := ev_I (g := fun i j => .int (i.fdiv j)) ha hb hc
theorem v_if {D : Ends} {tu tw : TS} {b : Bool} (h : EV te σ H (.bl b)) (h1 : b = true → tu D σ H) (h2 : b = false → tw D σ H) : tIfS (tTest te) tu tw D σ H := h _ ⟨b, rfl, by
  show if b = true then tu D σ H else tw D σ H
  cases b with
  | true => exact h1 rfl
  | false => exact h2 rfl⟩
theorem v_asg {D : Ends} {k : Nat} (h : EV te σ H v) (q : D.nx (σ.set k (some v)) H) : tAsg te (gName k) D σ H := h _ q
theorem v_ret {D : Ends} (h : EV te σ H v) (q : D.rt v H) : tRet te D σ H := h _ q
theorem v_put {D : Ends} {p : Addr} {xs : List V} {n : Nat} (h : EV te σ H v) (ho : EV ta σ H (.ref p)) (hi : EV tb σ H (.int i)) (hp : H p = some (.lst xs)) (hn : ixN xs.length i = some n) (q : D.nx σ (upd H p (.lst (xs.set n v)))) : tAsg te (gSub ta tb rSetL) D σ H :=
  h _ (ho _ (hi _ ⟨p, xs, i, n, rfl, rfl, hp, hn, q⟩))
theorem upd_other {H0 : Hp} {r : Addr} {o : HO} (e : ∀ b, b ≠ r → H b = H0 b) : ∀ b, b ≠ r → (upd H r o) b = H0 b := fun b hb => by
  rw [upd_ne hb]
  exact e b hb
theorem fdiv_nn (a : Int) (hi : 0 ≤ i) (hj : 0 < j) : 0 ≤ i.fdiv j := Int.fdiv_nonneg hi (Int.le_of_lt hj)
theorem fmod_nn (a : Int) (hj : 0 < j) : 0 ≤ a.fmod j ∧ a.fmod j < j := ⟨Int.fmod_nonneg_of_pos a hj, Int.fmod_lt_of_pos a hj⟩
theorem ok_law_taken (F : Dfn K mg "_law_taken" sLawTaken f fd ["_law_row", "_law_many"]) (B : Blt mg) : Cal P w K mg base 1 "_law_taken" (SpTk K) := .of F (F.fn.ok scLawTaken (fun vs H Q E h => by
  obtain ⟨_, _, _, _, rfl, _⟩ := h
  rfl) fun cdv A outer s H vs Q E hr h => by
  obtain ⟨r, a, ns, many, rfl, ⟨hsc, i, k, m, hrow, hi, hk, hk2, hm⟩, h1, h2, q⟩ := h
  refine ⟨_, (pss_cons (ps_if (pt_cmpR op_gt (pe_ix (r := rIxL K) ix_list (pv 0) pe_int (fun _ _ => rfl)) pe_int (nomark _))
      (pss_cons (ps_set (i := 2) scLawTaken.nd rfl (by first | exact .inl rfl | exact .inr rfl) (pe_op op_modN (pe_callTy call_int1 (by rfl) B.int PyProof.Rows.boot_int (pa_cons (pe_ix (r := rIxL K) ix_list (pv 0) pe_int (fun _ _ => rfl)) pa_nil)) (pv 1)))
    (pss_cons (ps_asg (pe_op op_fdivN (pe_ix (r := rIxL K) ix_list (pv 0) pe_int (fun _ _ => rfl)) (pv 1)) (pg_sub (pv 0) pe_int set_list))
    (pss_one (ps_ret (pv 2)))))
      pss_nil)
    (pss_cons (ps_asg (pe_op op_add (pe_ix (r := rIxL K) ix_list (pv 0) pe_int (fun _ _ => rfl)) pe_int) (pg_sub (pv 0) pe_int set_list))
    (pss_cons (ps_if (pt_cmpR op_gt (pe_ix (r := rIxL K) ix_list (pv 0) pe_int (fun _ _ => rfl)) (pe_callB (r := rLenS K) call_len_seq (by rfl) B.len PySem.boot_len (pa_cons (pe_ix (r := rIxL K) ix_list (pv 0) pe_int (fun _ _ => rfl)) pa_nil)) (nomark _))
      (pss_cons (ps_asg (pe_op op_modN (pe_callTy call_int1 (by rfl) B.int PyProof.Rows.boot_int (pa_cons (pe_op op_add (pe_op op_mul (pe_ix (r := rIxL K) ix_list (pv 0) pe_int (fun _ _ => rfl)) pe_int) pe_int) pa_nil)) pe_int) (pg_sub (pv 0) pe_int set_list))
    (pss_one (ps_ret (pe_op op_modN (pe_callTy call_int1 (by rfl) B.int PyProof.Rows.boot_int (pa_cons (pe_op op_fdivN (pe_ix (r := rIxL K) ix_list (pv 0) pe_int (fun _ _ => rfl)) pe_int) pa_nil)) (pv 1)))))
      pss_nil)
    (pss_cons (ps_set (i := 3) scLawTaken.nd rfl (by first | exact .inl rfl | exact .inr rfl) (pe_ix (r := rIxL K) ix_list (pe_ix (r := rIxL K) ix_list (pv 0) pe_int (fun _ _ => rfl)) (pe_op op_sub (pe_ix (r := rIxL K) ix_list (pv 0) pe_int (fun _ _ => rfl)) pe_int) (fun _ _ => rfl)))
    (pss_cons (ps_asg (pe_op op_modN (pe_callTy call_int1 (by rfl) B.int PyProof.Rows.boot_int (pa_cons (pe_op op_add (pe_op op_add (pe_op op_mul (pe_ix (r := rIxL K) ix_list (pv 0) pe_int (fun _ _ => rfl)) pe_int) (pv 3)) pe_int) pa_nil)) pe_int) (pg_sub (pv 0) pe_int set_list))
    (pss_cons (ps_if (pt_cmpR op_ge (pv 3) (pe_op op_pow pe_int pe_int) (nomark _))
      (pss_one (ps_asg (pe_op op_fdivN (pv 3) (pv 1)) (pg_sub (pv 0) pe_int set_list)))
      pss_nil)
    (pss_one (ps_ret (pe_op op_modN (pe_callTy call_int1 (by rfl) B.int PyProof.Rows.boot_int (pa_cons (pv 3) pa_nil)) (pv 1)))))))))), ?_⟩
  have hcd : CDivN m many := ⟨by omega, by omega⟩
  have S : ∀ {H' : Hp}, H' r = some (.lst [.ref a, .int i, .int k, .int m]) → SqL K H' r [.ref a, .int i, .int k, .int m] := fun h => .inl (.inl h)
  refine v_if (b := decide (0 < m)) (ev_I0 (ev_ixL (ev_var rfl) ev_c (.inl (.inl hrow)) (by decide) rfl) ev_c) (fun hb => ?_) fun hb => ?_
  · refine v_asg (ev_I (C := fun _ j => j ≠ 0) (ev_int1 (ev_ixL (ev_var rfl) ev_c (.inl (.inl hrow)) (by decide) rfl)) (ev_var rfl) (show many ≠ 0 by omega)) ?_
    refine v_put (ev_I (C := CDivN) (ev_ixL (ev_var rfl) ev_c (.inl (.inl hrow)) (by decide) rfl) (ev_var rfl) hcd) (ev_var rfl) ev_c hrow (n := 3) (show ixN 4 3 = some 3 by decide) ?_
    exact v_ret (ev_var (k := 2) rfl) (q _ _ (fmod_nn m (by omega)).1 (fmod_nn m (by omega)).2 ⟨hsc.same (upd_other fun _ _ => rfl), i, k, _, upd_same, hi, hk, hk2, fdiv_nn m hm (by omega)⟩ (upd_other fun _ _ => rfl))
  · refine v_put (ev_I0 (ev_ixL (ev_var rfl) ev_c (.inl (.inl hrow)) (by decide) rfl) ev_c) (ev_var rfl) ev_c hrow (n := 1) (show ixN 4 1 = some 1 by decide) ?_
    have e1 : ∀ b, b ≠ r → (upd H r (.lst ([V.ref a, .int i, .int k, .int m].set 1 (.int (i + 1))))) b = H b := upd_other fun _ _ => rfl
    have hrow1 : (upd H r (.lst ([V.ref a, .int i, .int k, .int m].set 1 (.int (i + 1))))) r = some (.lst [.ref a, .int (i + 1), .int k, .int m]) := upd_same
    have hs1 := hsc.same e1
    generalize upd H r (.lst ([V.ref a, .int i, .int k, .int m].set 1 (.int (i + 1)))) = H1 at e1 hrow1 hs1 ⊢
    refine v_if (b := decide ((ns.map V.int).length < i + 1)) (ev_I0 (g := fun i j => .bl (decide (j < i))) (ev_ixL (i := 1) (ev_var rfl) ev_c (.inl (.inl hrow1)) (by decide) rfl) (ev_lenL (ev_ixL (i := 0) (ev_var rfl) ev_c (.inl (.inl hrow1)) (by decide) rfl) hs1.1)) (fun hb1 => ?_) fun hb1 => ?_
    · refine v_put (ev_mod (ev_int1 (ev_add (ev_mul (j := 48271) (ev_ixL (i := 2) (ev_var rfl) ev_c (.inl (.inl hrow1)) (by decide) rfl) ev_c (.inr ⟨by decide, by decide⟩)) ev_c)) ev_c (by decide)) (ev_var rfl) ev_c hrow1 (n := 2) (show ixN 4 2 = some 2 by decide) ?_
      have e2 := upd_other (o := .lst ([V.ref a, .int (i + 1), .int k, .int m].set 2 (.int ((k * 48271 + 11).fmod 2147483647)))) e1
      have hrow2 : (upd H1 r (.lst ([V.ref a, .int (i + 1), .int k, .int m].set 2 (.int ((k * 48271 + 11).fmod 2147483647))))) r = some (.lst [.ref a, .int (i + 1), .int ((k * 48271 + 11).fmod 2147483647), .int m]) := upd_same
      have hk3 := fmod_nn (k * 48271 + 11) (show (0 : Int) < 2147483647 by decide)
      refine v_ret (ev_mod (ev_int1 (ev_fdiv (j := 7) (ev_ixL (i := 2) (ev_var rfl) ev_c (.inl (.inl hrow2)) (by decide) rfl) ev_c ⟨by decide, by decide⟩)) (ev_var rfl) (show many ≠ 0 by omega)) (q _ _ (fmod_nn _ (by omega)).1 (fmod_nn _ (by omega)).2 ⟨hsc.same e2, i + 1, _, m, hrow2, by omega, hk3.1, hk3.2, hm⟩ e2)
    · rw [decide_eq_false_iff_not, List.length_map] at hb1
      have hlt : i.toNat < ns.length := by omega
      have hcell : (ns.map V.int)[(i + 1 - 1).toNat]? = some (.int ns[i.toNat]) := by
        have e : i + 1 - 1 = i := by omega
        rw [e, List.getElem?_map, List.getElem?_eq_getElem hlt]
        rfl
      generalize ns[i.toNat] = cell at hcell
      refine v_asg (ev_ixL (ev_ixL (ev_var rfl) ev_c (.inl (.inl hrow1)) (by decide) rfl) (ev_I0 (ev_ixL (ev_var rfl) ev_c (.inl (.inl hrow1)) (by decide) rfl) ev_c) hs1.1 (by omega) hcell) ?_
      refine v_put (ev_mod (ev_int1 (ev_add (ev_add (ev_mul (j := 48271) (ev_ixL (i := 2) (ev_var (k := 0) rfl) ev_c (.inl (.inl hrow1)) (by decide) rfl) ev_c (.inr ⟨by decide, by decide⟩)) (ev_var (k := 3) rfl)) ev_c)) ev_c (by decide)) (ev_var (k := 0) rfl) ev_c hrow1 (n := 2) (show ixN 4 2 = some 2 by decide) ?_
      have e2 := upd_other (o := .lst ([V.ref a, .int (i + 1), .int k, .int m].set 2 (.int ((k * 48271 + cell + 11).fmod 2147483647)))) e1
      have hrow2 : (upd H1 r (.lst ([V.ref a, .int (i + 1), .int k, .int m].set 2 (.int ((k * 48271 + cell + 11).fmod 2147483647))))) r = some (.lst [.ref a, .int (i + 1), .int ((k * 48271 + cell + 11).fmod 2147483647), .int m]) := upd_same
      have hk3 := fmod_nn (k * 48271 + cell + 11) (show (0 : Int) < 2147483647 by decide)
      generalize upd H1 r (.lst ([V.ref a, .int (i + 1), .int k, .int m].set 2 (.int ((k * 48271 + cell + 11).fmod 2147483647)))) = H2 at e2 hrow2 ⊢
      generalize (k * 48271 + cell + 11).fmod 2147483647 = k2 at hrow2 hk3 ⊢
      refine v_if (b := decide ((10 : Int) ^ (18 : Int).toNat ≤ cell)) (ev_I0 (g := fun i j => .bl (decide (j ≤ i))) (ev_var (k := 3) rfl) (ev_I (C := CPow) (g := fun i j => .int (i ^ j.toNat)) (i := 10) (j := 18) ev_c ev_c ⟨by decide, by decide, by decide⟩)) (fun hb2 => ?_) fun hb2 => ?_
      · rw [decide_eq_true_eq] at hb2
        have hc0 : 0 ≤ cell := Int.le_trans (by decide) hb2
        refine v_put (ev_fdiv (ev_var (k := 3) rfl) (ev_var (k := 1) rfl) hcd) (ev_var (k := 0) rfl) ev_c hrow2 (n := 3) (show ixN 4 3 = some 3 by decide) ?_
        exact v_ret (ev_mod (ev_int1 (ev_var (k := 3) rfl)) (ev_var (k := 1) rfl) (show many ≠ 0 by omega)) (q _ _ (fmod_nn _ (by omega)).1 (fmod_nn _ (by omega)).2 ⟨hsc.same (upd_other e2), i + 1, k2, _, upd_same, by omega, hk3.1, hk3.2, fdiv_nn cell hc0 (by omega)⟩ (upd_other e2))
      · exact v_ret (ev_mod (ev_int1 (ev_var (k := 3) rfl)) (ev_var (k := 1) rfl) (show many ≠ 0 by omega)) (q _ _ (fmod_nn _ (by omega)).1 (fmod_nn _ (by omega)).2 ⟨hsc.same e2, i + 1, k2, m, hrow2, by omega, hk3.1, hk3.2, hm⟩ e2))
end
end Dw

/-! The law's own lot. -/
namespace Dw
open PySem PySem.Spec PyProof.Rows L2 LamX
/-- all but the row and the code tables stays -/
def StR (T : List (Addr × Str)) (r : Addr) (H H' : Hp) : Prop := (∀ a u, H a = some u → a ≠ r → (∀ ps, u ≠ .tbl ps) → H' a = some u) ∧ (Tabs T H → Tabs T H')
theorem StR.trans {T : List (Addr × Str)} {r : Addr} {H H1 H2 : Hp} (a : StR T r H H1) (b : StR T r H1 H2) : StR T r H H2 := ⟨fun c u h n t => b.1 c u (a.1 c u h n t) n t, fun h => b.2 (a.2 h)⟩
theorem Stp.r {T : List (Addr × Str)} {r : Addr} {H H' : Hp} (e : Stp T H H') : StR T r H H' := ⟨fun a u h _ t => e.1 a u h t, e.2⟩
theorem StR.refl {T : List (Addr × Str)} {r : Addr} (H : Hp) : StR T r H H := (Stp.refl H).r
theorem StR.same {T : List (Addr × Str)} {r : Addr} {H H' : Hp} {o : HO} (m : LD (H r)) (e : ∀ b, b ≠ r → H' b = H b) (h : H' r = some o) : StR T r H H' := by
  have q : H' = upd H r o := funext fun b => by
    by_cases c : b = r
    · subst c
      rw [h, upd_same]
    · rw [e b c, upd_ne c]
  subst q
  exact ⟨fun a u ha n _ => by rw [upd_ne n]; exact ha, fun t => tabs_mut m t⟩
theorem StR.mut {T : List (Addr × Str)} {r l : Addr} {H H' : Hp} {o : HO} (e : StR T r H H') (h : H l = none) (m : LD (H' l)) : StR T r H (upd H' l o) :=
  ⟨fun a u ha n t => by
    rw [upd_ne (ne_of_none ha h)]
    exact e.1 a u ha n t, fun t => tabs_mut m (e.2 t)⟩
theorem StR.stp {T : List (Addr × Str)} {r : Addr} {H0 H H' : Hp} (a : Stp T H0 H) (h : H0 r = none) (b : StR T r H H') : Stp T H0 H' :=
  ⟨fun c u hc t => b.1 c u (a.1 c u hc t) (ne_of_none hc h) t, fun t => b.2 (a.2 t)⟩
theorem LD.ne {H : Hp} {r a : Addr} {u : HO} (m : LD (H r)) (h : H a = some u) (h1 : ∀ xs, u ≠ .lst xs) (h2 : ∀ xs, u ≠ .dT xs) : a ≠ r := fun z => by
  rw [z] at h
  rcases m with ⟨xs, m⟩ | ⟨xs, m⟩
  · rw [h] at m
    exact h1 xs (Option.some.inj m)
  · rw [h] at m
    exact h2 xs (Option.some.inj m)
theorem StR.tk {T : List (Addr × Str)} {r : Addr} {H H' : Hp} (e : StR T r H H') (m : LD (H r)) : Tk H H' :=
  ⟨fun a xs h => e.1 a _ h (m.ne h (fun _ z => nomatch z) (fun _ z => nomatch z)) (fun ps z => nomatch z), fun a o u h => e.1 a _ h (m.ne h (fun _ z => nomatch z) (fun _ z => nomatch z)) (fun ps z => nomatch z)⟩
section
variable {P : Program} {w : World} {K : PySem.W.Frag} {mg : Str → Option Value} {base : Heap} {T : List (Addr × Str)} {f : Addr} {fd : FuncData} {σ : L2.St} {H H' : Hp} {te ta tb : TE} {v x y : V} {i j : Int} {r a : Addr} {ns : List Int}
theorem RowAt.ld (h : RowAt K r a ns H) : LD (H r) := by
  obtain ⟨_, _, _, _, h, _⟩ := h
  exact LD.l h
theorem Scr.step (s : Scr K H r a ns) (e : ∀ b u, H b = some u → b ≠ r → (∀ ps, u ≠ .tbl ps) → H' b = some u) (hr : ∃ u, H r = some u) : Scr K H' r a ns := by
  have key : ∀ H2, (∀ b, b ≠ r → H2 b = H' b) → SqL K H2 a (ns.map V.int) := fun H2 e2 => by
    have h0 := s.2.2 (fun b => if b = r then none else H b) fun b hb => if_neg hb
    rcases h0 with (h | ⟨o, h⟩) | h
    · have h : (if a = r then none else H a) = some (.lst (ns.map V.int)) := h
      by_cases c : a = r
      · rw [if_pos c] at h
        cases h
      · rw [if_neg c] at h
        exact .inl (.inl ((e2 a c).trans (e a _ h c fun ps z => by cases z)))
    · have h : (if a = r then none else H a) = some (.frz o (.lst (ns.map V.int))) := h
      by_cases c : a = r
      · rw [if_pos c] at h
        cases h
      · rw [if_neg c] at h
        exact .inl (.inr ⟨o, (e2 a c).trans (e a _ h c fun ps z => by cases z)⟩)
    · exact .inr h
  exact ⟨key H' fun _ _ => rfl, s.2.1, key⟩
theorem RowAt.step (h : RowAt K r a ns H) (e : Stp T H H') : RowAt K r a ns H' := by
  obtain ⟨s, i, k, m, hr, q⟩ := h
  exact ⟨s.step (fun b u hb _ t => e.1 b u hb t) ⟨_, hr⟩, i, k, m, e.lst hr, q⟩
theorem RowAt.mut {l : Addr} {o : HO} (h : RowAt K r a ns H') (e : StR T r H H') (h0 : RowAt K r a ns H) (hl : H l = none) : RowAt K r a ns (upd H' l o) := by
  obtain ⟨s, i, k, m, hr, q⟩ := h
  obtain ⟨s0, i0, k0, m0, hr0, q0⟩ := h0
  have n : l ≠ r := fun z => by
    subst z
    rw [hr0] at hl
    cases hl
  exact ⟨s0.step (fun b u hb n t => by
    rw [upd_ne (ne_of_none hb hl)]
    exact e.1 b u hb n t) ⟨_, hr0⟩, i, k, m, by rw [upd_ne n.symm]; exact hr, q⟩
theorem v_taken {E : XK} {Q : VK} {many : Int} (hσ : σ[0]? = some (some (.ref r))) (hrow : RowAt K r a ns H) (hm : EV te σ H (.int many)) (h1 : 1 ≤ many) (h2 : many ≤ 1000)
    (k : ∀ v H', 0 ≤ v → v < many → RowAt K r a ns H' → (∀ b, b ≠ r → H' b = H b) → StR T r H H' → Q (.int v) H') : tCall (SpTk K) [] E (tCons (tVar 0) (tCons te tNil)) σ H Q :=
  ⟨_, hσ, hm _ ⟨r, a, ns, many, rfl, hrow, h1, h2, fun v H' a1 a2 a3 a4 => k v H' a1 a2 a3 a4 (by
    obtain ⟨_, _, _, _, h, _⟩ := id a3
    exact StR.same hrow.ld a4 h)⟩⟩
/-- a comprehension over a range, by what holds ahead of each step -/
theorem v_lc {wi : TI} {g : TG} {tt : TT} {vs : List Nat} {Q : VK} (lo : Int) (n : Nat) (Pv : Addr → Nat → Hp → Prop) (hi : ∀ R : It → Hp → Prop, R (Itr lo n) H → wi σ H R) (h0 : ∀ Dl, H Dl = none → Pv Dl 0 (upd H Dl (.lst [])))
    (hs : ∀ Dl i H', i < n → Pv Dl i H' → g (.int (lo + i)) (wipe σ vs) H' fun σ2 H2 => wipe σ2 vs = wipe σ vs ∧ tt σ2 H2 fun b H3 => if b = true then te σ2 H3 fun y H4 => ∃ acc, H4 Dl = some (.lst acc) ∧ acc.length < sizeLine ∧ Pv Dl (i + 1) (upd H4 Dl (.lst (acc ++ [y]))) else Pv Dl (i + 1) H3)
    (hd : ∀ Dl H', Pv Dl n H' → Q (.ref Dl) H') : tLc wi g tt te vs σ H Q := hi _ fun Dl hD => by
  refine ⟨fun i m H' => i + m = n ∧ Pv Dl i H', ⟨n, by omega, h0 Dl hD⟩, fun i m H' hW => ?_⟩
  obtain ⟨hm, hp⟩ := hW
  by_cases hlt : i < n
  · refine .inr ⟨hlt, fun H2 => Pv Dl (i + 1) H2, fun H2 hn => ⟨m - 1, by omega, by omega, hn⟩, fun x H2 hy => ?_⟩
    obtain ⟨rfl, rfl⟩ := hy
    exact hs Dl i H2 hlt hp
  · have e : i = n := by omega
    subst e
    exact .inl ⟨Nat.le_refl _, hd Dl H' hp⟩
/-- x = tuple([..]) of such a one -/
theorem v_asgLcT {D : Ends} {wi : TI} {g : TG} {tt : TT} {vs : List Nat} {k : Nat} (lo : Int) (n : Nat) (Pv : Addr → Nat → Hp → Prop) (hi : ∀ R : It → Hp → Prop, R (Itr lo n) H → wi σ H R) (h0 : ∀ Dl, H Dl = none → Pv Dl 0 (upd H Dl (.lst [])))
    (hs : ∀ Dl i H', i < n → Pv Dl i H' → g (.int (lo + i)) (wipe σ vs) H' fun σ2 H2 => wipe σ2 vs = wipe σ vs ∧ tt σ2 H2 fun b H3 => if b = true then te σ2 H3 fun y H4 => ∃ acc, H4 Dl = some (.lst acc) ∧ acc.length < sizeLine ∧ Pv Dl (i + 1) (upd H4 Dl (.lst (acc ++ [y]))) else Pv Dl (i + 1) H3)
    (hd : ∀ Dl H', Pv Dl n H' → ∃ xs, H' Dl = some (.lst xs) ∧ ∀ p, H' p = none → D.nx (σ.set k (some (.ref p))) (upd H' p (.tup xs))) : tAsg (tThen (tLc wi g tt te vs) (kTup K)) (gName k) D σ H :=
  v_lc (Q := fun v H1 => kTup K v H1 fun v' H2 => gName k v' σ H2 D.nx) lo n Pv hi h0 hs fun Dl H' hp => by
    obtain ⟨xs, hx, q⟩ := hd Dl H' hp
    exact .inl ⟨Dl, xs, rfl, .inl (.inl hx), q⟩
/-- a loop over a range -/
theorem v_for {D : Ends} {wi : TI} {g : TG} {tu : TS} (lo : Int) (Pv : Nat → Nat → L2.St → Hp → Prop) (hi : ∀ R : It → Hp → Prop, (∀ n H1, Pv n 0 σ H1 → R (Itr lo n) H1) → wi σ H R)
    (hs : ∀ n i σ' H', i < n → Pv n i σ' H' → g (.int (lo + i)) σ' H' fun σ2 H2 => tu { D with nx := Pv n (i + 1), ct := Pv n (i + 1), bk := D.nx } σ2 H2) (hd : ∀ n σ' H', Pv n n σ' H' → D.nx σ' H') : tFor wi g tu D σ H := hi _ fun n H1 h0 => by
  refine ⟨fun i m σ' H' => i + m = n ∧ Pv n i σ' H', ⟨n, by omega, h0⟩, fun i m σ' H' hW => ?_⟩
  obtain ⟨hm, hp⟩ := hW
  by_cases hlt : i < n
  · refine .inr ⟨hlt, Pv n (i + 1), fun σ2 H2 hn => ⟨m - 1, by omega, by omega, hn⟩, fun x H2 hy => ?_⟩
    obtain ⟨rfl, rfl⟩ := hy
    exact hs n i σ' H2 hlt hp
  · have e : i = n := by omega
    subst e
    exact .inl ⟨Nat.le_refl _, hd _ _ _ hp⟩
def SpLot (T : List (Addr × Str)) (K : PySem.W.Frag) : Sp := fun vs H Q _ => ∃ (r a : Addr) (ns : List Int) (n : Nat), vs = [.ref r, .int n] ∧ RowAt K r a ns H ∧ 1 ≤ n ∧ n ≤ 7 ∧
  ∀ v H' lot, Lot n lot → Dp K H' v (dLot lot) → RowAt K r a ns H' → StR T r H H' → Q v H'
theorem ok_law_lot (F : Dfn K mg "_law_lot" sLawLot f fd ["_law_row", "_law_many"]) (B : Blt mg) (cLawTaken : Cal P w K mg base 1 "_law_taken" (SpTk K)) : Cal P w K mg base 2 "_law_lot" (SpLot T K) := .of F (F.fn.ok scLawLot (fun vs H Q E h => by
  obtain ⟨_, _, _, _, rfl, _⟩ := h
  rfl) fun cdv A outer s H vs Q E hr h => by
  obtain ⟨r, a, ns, n, rfl, hrow, hn1, hn7, q⟩ := h
  refine ⟨_, (pss_cons (ps_set (i := 2) scLawLot.nd rfl (by first | exact .inl rfl | exact .inr rfl) (pe_tupleOf (by rfl) B.tuple (pe_lc (own := [("_law_person", 3)]) (wi := iRng1 _) (g := (gName 3)) rfl scLawLot.nd (pi_range1 (by rfl) B.range (pa_cons (pv 1) pa_nil)) (blkOk_by (by first | decide +kernel | kernel_rfl | rfl)) (fun _ _ _ _ _ => (pg_name (i := 3) scLawLot.nd rfl (by first | exact .inl rfl | exact .inr rfl))) (fun _ _ _ _ _ => (pts_one (pt_cmpR op_eq (pe_k cLawTaken hr (by decide) (by rfl) (pa_cons (pv 0) (pa_cons pe_int pa_nil))) pe_int (nomark _)))) (fun _ _ _ _ _ => (pv 3)))))
    (pss_one (ps_ret (pe_ifExp (pt_cmpR (r := rNeD K) (op_neD hr.units) (pv 2) (pe_tup pa_nil) (nomark _)) (pv 2) (pe_tup (pa_cons (pe_k cLawTaken hr (by decide) (by rfl) (pa_cons (pv 0) (pa_cons (pv 1) pa_nil))) pa_nil)))))), ?_⟩
  have hrl := hrow.ld
  refine v_asgLcT (lo := 0) (n := n) (Pv := fun Dl i H' => H Dl = none ∧ ∃ l : List Int, H' Dl = some (.lst (l.map V.int)) ∧ RowAt K r a ns H' ∧ StR T r H H' ∧ l.Pairwise (· < ·) ∧ (∀ x ∈ l, 0 ≤ x ∧ x < i) ∧ l.length ≤ i)
    (fun R h => ⟨_, rfl, n, rfl, by omega, by omega, h⟩) (fun Dl hD => ⟨hD, [], upd_same, hrow.step (T := T) (.new hD), (Stp.new hD).r, .nil, (fun x h => by cases h), Nat.le_refl _⟩) (fun Dl i H1 hi hP => ?_) fun Dl H1 hP => ?_
  · obtain ⟨hD, l, hl, hrow1, st, ha, hm, hlen⟩ := hP
    refine ⟨rfl, ?_⟩
    refine v_taken (T := T) rfl hrow1 ev_c (by decide) (by decide) fun t H2 ht0 ht1 hrow2 he st2 => ⟨rfl, ?_⟩
    refine ⟨_, rfl, ?_⟩
    have hDr : Dl ≠ r := fun z => by
      subst z
      rcases hrl with ⟨_, m⟩ | ⟨_, m⟩ <;> rw [hD] at m <;> cases m
    have hl2 : H2 Dl = some (.lst (l.map V.int)) := (he Dl hDr).trans hl
    by_cases ht : t = 0
    · subst ht
      refine ⟨_, rfl, _, hl2, ?_, hD, l ++ [(0 : Int) + i], ?_, ?_, ?_, ?_, ?_, ?_⟩
      · rw [List.length_map]
        exact sz_smaller (by omega)
      · rw [upd_same, List.map_append]
        rfl
      · exact hrow2.mut (st.trans st2) hrow hD
      · exact (st.trans st2).mut hD (LD.l hl2)
      · refine List.pairwise_append.mpr ⟨ha, by simp, fun x hx z hz => ?_⟩
        simp at hz
        have := hm x hx
        omega
      · intro x hx
        rcases List.mem_append.mp hx with z | z
        · have := hm x z
          omega
        · simp at z
          omega
      · rw [List.length_append]
        show l.length + 1 ≤ i + 1
        omega
    · have e : decide (V.int t = V.int 0) = false := decide_eq_false fun z => ht (V.int.inj z)
      rw [e]
      exact ⟨hD, l, hl2, hrow2, st.trans st2, ha, fun x hx => by
        have := hm x hx
        omega, by omega⟩
  · obtain ⟨hD, l, hl, hrow1, st, ha, hm, hlen⟩ := hP
    refine ⟨_, hl, fun p hp => ?_⟩
    have hrow2 := hrow1.step (T := T) (Stp.new (o := .tup (l.map V.int)) hp)
    have st2 := st.trans (Stp.new (o := .tup (l.map V.int)) hp).r
    have dl : Dp K (upd H1 p (.tup (l.map V.int))) (.ref p) (dLot l) := .tup (.inl (.inl upd_same)) (dpAll_ints l)
    generalize upd H1 p (.tup (l.map V.int)) = H2 at hrow2 st2 dl
    refine et_test (T := T) (K := K) (σ := [some (.ref r), some (.int n), some (.ref p), none]) (ed_neNilT (K := K) (ds := l.map PyData.int) (ed_var (i := 2) rfl dl) (shaped_ints l).1) H2 (Stp.refl _) _ fun H3 e3 => ?_
    rw [isEmpty_map]
    have hrow3 := hrow2.step e3
    have st3 := st2.trans e3.r
    cases l with
    | cons b l =>
      exact ⟨_, rfl, q _ H3 (b :: l) ⟨by simp, ha, hm⟩ (e3.dp dl) hrow3 st3⟩
    | nil =>
      refine v_taken (T := T) (σ := [some (.ref r), some (.int n), some (.ref p), none]) rfl hrow3 (ev_var (k := 1) rfl) (by omega) (by omega) fun t H4 ht0 ht1 hrow4 he st4 => ⟨by show 1 ≤ sizeLine; decide, fun p' hp' => ?_⟩
      exact q _ _ [t] ⟨by simp, by simp, fun x hx => by
        simp at hx
        omega⟩ (.tup (.inl (.inl upd_same)) (dpAll_ints [t])) (hrow4.step (T := T) (Stp.new hp')) (st3.trans (st4.trans (Stp.new hp').r)))
end
end Dw

/-! The law's own web. -/
namespace Dw
open PySem PySem.Spec PyProof.Rows L2 LamX
/-! ### the ties' keys -/
abbrev encT (t : Int × Int) : List Key := [.inl t.1, .inl t.2]
theorem encT_inj {s t : Int × Int} (h : encT s = encT t) : s = t := by
  obtain ⟨a, b⟩ := s
  obtain ⟨c, d⟩ := t
  injection h with h1 h2
  injection h2 with h2 h3
  injection h1 with h1
  injection h2 with h2
  exact Prod.ext h1 h2
def addT (ks : Ties) (t : Int × Int) : Ties := if t ∈ ks then ks else ks ++ [t]
theorem putK_keys {κ : Type} [DecidableEq κ] (kvs : List (κ × V)) (k : κ) (v : V) : (putK kvs k v).map (·.1) = if k ∈ kvs.map (·.1) then kvs.map (·.1) else kvs.map (·.1) ++ [k] := by
  unfold putK
  by_cases h : k ∈ kvs.map (·.1)
  · have h2 : (kvs.any fun kv => decide (kv.1 = k)) = true := by
      obtain ⟨p, hp, e⟩ := List.mem_map.mp h
      exact List.any_eq_true.mpr ⟨p, hp, decide_eq_true e⟩
    rw [if_pos h, if_pos h2, List.map_map]
    refine List.map_congr_left fun p hp => ?_
    show (if p.1 = k then (p.1, v) else p).1 = p.1
    by_cases c : p.1 = k
    · rw [if_pos c]
    · rw [if_neg c]
  · have h2 : ¬ (kvs.any fun kv => decide (kv.1 = k)) = true := fun z => by
      obtain ⟨p, hp, e⟩ := List.any_eq_true.mp z
      exact h (List.mem_map.mpr ⟨p, hp, of_decide_eq_true e⟩)
    rw [if_neg h, if_neg h2, List.map_append]
    rfl
theorem putK_ties {kvs : List (List Key × V)} {ks : Ties} (t : Int × Int) (v : V) (h : kvs.map (·.1) = ks.map encT) : (putK kvs (encT t) v).map (·.1) = (addT ks t).map encT := by
  rw [putK_keys, h]
  unfold addT
  by_cases c : t ∈ ks
  · rw [if_pos c, if_pos (List.mem_map.mpr ⟨t, c, rfl⟩)]
  · rw [if_neg c, if_neg (fun z => by
      obtain ⟨s, hs, e⟩ := List.mem_map.mp z
      rw [encT_inj e] at hs
      exact c hs), List.map_append]
    rfl
theorem addT_mem {ks : Ties} {t s : Int × Int} : s ∈ addT ks t ↔ s ∈ ks ∨ s = t := by
  unfold addT
  by_cases c : t ∈ ks
  · rw [if_pos c]
    constructor
    · exact .inl
    · rintro (h | h)
      · exact h
      · subst h
        exact c
  · rw [if_neg c]
    simp
theorem addT_nd {ks : Ties} {t : Int × Int} (h : ks.Nodup) : (addT ks t).Nodup := by
  unfold addT
  by_cases c : t ∈ ks
  · rw [if_pos c]
    exact h
  · rw [if_neg c, List.nodup_append]
    refine ⟨h, by simp, fun a ha b hb e => ?_⟩
    simp at hb
    subst hb
    subst e
    exact c ha
theorem addT_len (ks : Ties) (t : Int × Int) : (addT ks t).length ≤ ks.length + 1 := by
  unfold addT
  by_cases c : t ∈ ks
  · rw [if_pos c]
    omega
  · rw [if_neg c, List.length_append]
    exact Nat.le_refl _
/-- the ties so far: all persons ahead of d are tied to one ahead of them -/
structure KsI (n : Nat) (d : Int) (ks : Ties) : Prop where
  nd : ks.Nodup
  tie : ∀ t ∈ ks, 0 ≤ t.1 ∧ t.1 < t.2 ∧ t.2 < n
  con : ∀ x : Int, 1 ≤ x → x < d → ∃ y, 0 ≤ y ∧ y < x ∧ (y, x) ∈ ks
theorem KsI.nil (n : Nat) : KsI n 1 [] := ⟨.nil, fun t h => (by cases h), fun x h1 h2 => absurd h1 (by omega)⟩
theorem KsI.add {n : Nat} {d : Int} {ks : Ties} {t : Int × Int} (h : KsI n d ks) (h1 : 0 ≤ t.1) (h2 : t.1 < t.2) (h3 : t.2 < n) : KsI n d (addT ks t) :=
  ⟨addT_nd h.nd, fun s hs => (addT_mem.mp hs).elim (h.tie s) fun e => by
    subst e
    exact ⟨h1, h2, h3⟩, fun x a b => by
    obtain ⟨y, y1, y2, y3⟩ := h.con x a b
    exact ⟨y, y1, y2, addT_mem.mpr (.inl y3)⟩⟩
theorem KsI.next {n : Nat} {d y : Int} {ks : Ties} (h : KsI n d ks) (h1 : 0 ≤ y) (h2 : y < d) (h3 : d < n) : KsI n (d + 1) (addT ks (y, d)) := by
  have k := h.add (t := (y, d)) h1 h2 h3
  refine ⟨k.nd, k.tie, fun x a b => ?_⟩
  by_cases c : x = d
  · subst c
    exact ⟨y, h1, h2, addT_mem.mpr (.inr rfl)⟩
  · exact k.con x a (by omega)
/-- the web of such ties, sorted -/
theorem KsI.web {nums : List Int} {ks ts : Ties} (h : KsI nums.length nums.length ks) (h1 : 1 ≤ nums.length) (h2 : nums.length ≤ 7) (hn : ∀ x ∈ nums, -1000 ≤ x ∧ x ≤ 1000) (hp : ts.Perm ks) (ho : ts.Pairwise fun s t => SrtO.lexB t s = false) : Web nums ts := by
  have hnd : ts.Nodup := hp.nodup_iff.mpr h.nd
  refine ⟨h1, h2, hn, fun t ht => h.tie t (hp.mem_iff.mp ht), ?_, fun x a b => ?_⟩
  · refine (List.Pairwise.and hnd ho).imp fun {s t} q => ?_
    obtain ⟨q1, q2⟩ := q
    have q3 := SrtO.lexB_no.mp q2
    have q4 : ¬ (s.1 = t.1 ∧ s.2 = t.2) := fun z => q1 (Prod.ext z.1 z.2)
    omega
  · exact tree_con (fun x a b => by
      obtain ⟨y, y1, y2, y3⟩ := h.con x a b
      exact ⟨y, y1, y2, hp.mem_iff.mpr y3⟩) x.toNat x (Nat.le_refl _) a b
/-! ### the keys as a list of ties -/
/-- what a pair is, read from the heap -/
def tieAt (H : Hp) (x : V) : Int × Int := match x with
  | .ref t => match H t with
    | some (.tup [.int a, .int b]) => (a, b)
    | _ => (0, 0)
  | _ => (0, 0)
theorem tieAt_of {H : Hp} {t : Addr} {s : Int × Int} (h : H t = some (.tup [.int s.1, .int s.2])) : tieAt H (.ref t) = s := by
  unfold tieAt
  simp only [h]
theorem isKeys_ties {H : Hp} : ∀ {kvs : List (List Key × V)} {bs : List Addr} {ks : Ties}, IsKeys H kvs bs → kvs.map (·.1) = ks.map encT → (bs.map V.ref).map (tieAt H) = ks ∧ ∀ x ∈ bs.map V.ref, ∃ t, x = V.ref t ∧ H t = some (.tup [.int (tieAt H x).1, .int (tieAt H x).2])
  | [], _, ks, h, e => by
    cases h
    cases ks with
    | nil => exact ⟨rfl, fun x hx => (by cases hx)⟩
    | cons k ks => cases e
  | p :: kvs, _, ks, h, e => by
    cases ks with
    | nil => cases e
    | cons k ks =>
      rw [List.map_cons, List.map_cons] at e
      injection e with e1 e2
      cases h with
      | cons h1 h2 =>
        obtain ⟨q1, q2⟩ := isKeys_ties h2 e2
        rw [e1] at h1
        have q3 := tieAt_of (s := k) h1
        refine ⟨by rw [List.map_cons, List.map_cons, q1, q3], fun x hx => ?_⟩
        rcases List.mem_cons.mp hx with z | z
        · subst z
          rw [q3]
          exact ⟨_, rfl, h1⟩
        · exact q2 x z
end Dw

/-! The law's own web: the walk. -/
namespace Dw
open PySem PySem.Spec PyProof.Rows L2 LamX
def SpWeb (T : List (Addr × Str)) (K : PySem.W.Frag) : Sp := fun vs H Q _ => ∃ (r a : Addr) (ns : List Int), vs = [.ref r, .int 7, .int 9] ∧ RowAt K r a ns H ∧
  ∀ v H' nums ts, Web nums ts → Dp K H' v (dWeb nums ts) → RowAt K r a ns H' → StR T r H H' → Q v H'
section
variable {P : Program} {w : World} {K : PySem.W.Frag} {mg : Str → Option Value} {base : Heap} {T : List (Addr × Str)} {f : Addr} {fd : FuncData} {σ : L2.St} {H H' : Hp} {te ta tb : TE} {v x y : V} {i j : Int} {r a : Addr} {ns : List Int}
theorem dpAll_ties {k : V → Int × Int} : ∀ {ys : List V}, (∀ x ∈ ys, ∃ t, x = V.ref t ∧ H t = some (.tup [.int (k x).1, .int (k x).2])) → DpAll K H ys ((ys.map k).map dTie)
  | [], _ => .nil
  | y :: ys, h => by
    obtain ⟨t, e, ht⟩ := h y List.mem_cons_self
    refine .cons ?_ (dpAll_ties fun x hx => h x (List.mem_cons_of_mem _ hx))
    rw [e] at ht ⊢
    exact .tup (.inl (.inl ht)) (.cons (.int _) (.cons (.int _) .nil))
theorem v_nm {k : Nat} {D : L2.St → Hp → Prop} (h : D (σ.set k (some v)) H) : gName k v σ H D := h
theorem v_yes {R : Bool → Hp → Prop} (h : R true H) : tYes σ H R := h
theorem ok_law_web (F : Dfn K mg "_law_web" sLawWeb f fd ["_law_row", "_law_most", "_law_high"]) (B : Blt mg) (cLawTaken : Cal P w K mg base 1 "_law_taken" (SpTk K)) : Cal P w K mg base 2 "_law_web" (SpWeb T K) := .of F (F.fn.ok scLawWeb (fun vs H Q E h => by
  obtain ⟨_, _, _, rfl, _⟩ := h
  rfl) fun cdv A outer s H vs Q E hr h => by
  obtain ⟨r, a, ns, rfl, hrow, q⟩ := h
  refine ⟨_, (pss_cons (ps_set (i := 3) scLawWeb.nd rfl (by first | exact .inl rfl | exact .inr rfl) (pe_op op_add pe_int (pe_k cLawTaken hr (by decide) (by rfl) (pa_cons (pv 0) (pa_cons (pv 1) pa_nil)))))
    (pss_cons (ps_set (i := 4) scLawWeb.nd rfl (by first | exact .inl rfl | exact .inr rfl) (pe_tupleOf (by rfl) B.tuple (pe_lc (own := [("_law_person", 6)]) (wi := iRng1 _) (g := (gName 6)) rfl scLawWeb.nd (pi_range1 (by rfl) B.range (pa_cons (pv 3) pa_nil)) (blkOk_by (by first | decide +kernel | kernel_rfl | rfl)) (fun _ _ _ _ _ => (pg_name (i := 6) scLawWeb.nd rfl (by first | exact .inl rfl | exact .inr rfl))) (fun _ _ _ _ _ => pts_nil) (fun _ _ _ _ _ => (pe_op op_sub (pe_k cLawTaken hr (by decide) (by rfl) (pa_cons (pv 0) (pa_cons (pv 2) pa_nil))) (pe_op op_fdivN (pv 2) pe_int))))))
    (pss_cons (ps_set (i := 5) scLawWeb.nd rfl (by first | exact .inl rfl | exact .inr rfl) pe_dnewT)
    (pss_cons (ps_for PassesOwn.never rfl (pi_range2 (by rfl) B.range (pa_cons pe_int (pa_cons (pv 3) pa_nil))) (pg_name (i := 6) scLawWeb.nd rfl (by first | exact .inl rfl | exact .inr rfl))
      (pss_one (ps_dput (Nat.lt_of_le_of_lt (Nat.add_le_add_left (by decide : 1 ≤ 64) _) hr.units) (pv 5) (pe_tup (pa_cons (pe_k cLawTaken hr (by decide) (by rfl) (pa_cons (pv 0) (pa_cons (pv 6) pa_nil))) (pa_cons (pv 6) pa_nil))) pe_bl (by rfl))))
    (pss_cons (ps_for PassesOwn.never rfl (pi_range1 (by rfl) B.range (pa_cons (pe_ifExp (pt_cmpR op_gt (pv 3) pe_int (nomark _)) (pe_k cLawTaken hr (by decide) (by rfl) (pa_cons (pv 0) (pa_cons pe_int pa_nil))) pe_int) pa_nil)) (pg_name (i := 7) scLawWeb.nd rfl (by first | exact .inl rfl | exact .inr rfl))
      (pss_cons (ps_set (i := 8) scLawWeb.nd rfl (by first | exact .inl rfl | exact .inr rfl) (pe_k cLawTaken hr (by decide) (by rfl) (pa_cons (pv 0) (pa_cons (pe_op op_sub (pv 3) pe_int) pa_nil))))
    (pss_one (ps_dput (Nat.lt_of_le_of_lt (Nat.add_le_add_left (by decide : 1 ≤ 64) _) hr.units) (pv 5) (pe_tup (pa_cons (pv 8) (pa_cons (pe_op op_add (pe_op op_add (pv 8) pe_int) (pe_k cLawTaken hr (by decide) (by rfl) (pa_cons (pv 0) (pa_cons (pe_op op_sub (pe_op op_sub (pv 3) pe_int) (pv 8)) pa_nil)))) pa_nil))) pe_bl (by rfl)))))
    (pss_one (ps_ret (pe_tup (pa_cons (pv 4) (pa_cons (pe_tupleOf (by rfl) B.tuple (pe_callB (r := rSortedPO K) cr_sortedPO (by rfl) B.sorted PyProof.Rows.boot_sorted (pa_cons (pe_callTy (call_list_dT rfl) (by rfl) B.list PyProof.Rows.boot_list (pa_cons (pv 5) pa_nil)) pa_nil))) pa_nil)))))))))), ?_⟩
  refine v_taken (T := T) rfl hrow (ev_var (k := 1) rfl) (by decide) (by decide) fun t H1 ht0 ht1 hrow1 he1 st1 => ⟨1, t, rfl, rfl, ?_⟩
  obtain ⟨N, hN, hN1, hN7⟩ : ∃ N : Nat, 1 + t = (N : Int) ∧ 1 ≤ N ∧ N ≤ 7 := ⟨(1 + t).toNat, by omega, by omega, by omega⟩
  have hrl1 := hrow1.ld
  refine v_nm ?_
  dsimp only
  refine v_asgLcT (lo := 0) (n := N) (Pv := fun Dl i H' => H1 Dl = none ∧ ∃ l : List Int, H' Dl = some (.lst (l.map V.int)) ∧ RowAt K r a ns H' ∧ StR T r H1 H' ∧ (∀ x ∈ l, -1000 ≤ x ∧ x ≤ 1000) ∧ l.length = i)
    (fun R h => ⟨_, rfl, 1 + t, rfl, by omega, by omega, by
      have e : (1 + t).toNat = N := by omega
      rw [e]
      exact h⟩) (fun Dl hD => ⟨hD, [], upd_same, hrow1.step (T := T) (.new hD), (Stp.new hD).r, (fun x h => by cases h), rfl⟩) (fun Dl i H2 hi hP => ?_) fun Dl H2 hP => ?_
  · obtain ⟨hD, l, hl, hrow2, st, hm, hlen⟩ := hP
    refine ⟨rfl, ?_⟩
    refine v_yes ?_
    rw [if_pos rfl]
    refine v_taken (T := T) rfl hrow2 (ev_var (k := 2) rfl) (by decide) (by decide) fun u H3 hu0 hu1 hrow3 he st3 => ⟨_, rfl, 9, 3, rfl, rfl, ⟨by decide, by decide⟩, u, _, rfl, rfl, ?_⟩
    have hDr : Dl ≠ r := fun z => by
      subst z
      rcases hrl1 with ⟨_, m⟩ | ⟨_, m⟩ <;> rw [hD] at m <;> cases m
    have hl3 : H3 Dl = some (.lst (l.map V.int)) := (he Dl hDr).trans hl
    have e9 : (9 : Int).fdiv 3 = 3 := by decide
    rw [e9]
    refine ⟨_, hl3, ?_, hD, l ++ [u - 3], ?_, hrow3.mut (st.trans st3) hrow1 hD, (st.trans st3).mut hD (LD.l hl3), fun x hx => ?_, ?_⟩
    · rw [List.length_map]
      exact sz_smaller (by omega)
    · rw [upd_same, List.map_append]
      rfl
    · rcases List.mem_append.mp hx with z | z
      · exact hm x z
      · simp at z
        omega
    · rw [List.length_append, hlen]
      rfl
  · obtain ⟨hD, nums, hl, hrow2, st, hm, hlen⟩ := hP
    refine ⟨_, hl, fun pn hpn => ?_⟩
    have hrow3 := hrow2.step (T := T) (Stp.new (o := .tup (nums.map V.int)) hpn)
    have st3 := st1.trans (st.trans (Stp.new (o := .tup (nums.map V.int)) hpn).r)
    have dn3 : Dp K (upd H2 pn (.tup (nums.map V.int))) (.ref pn) (dLot nums) := .tup (.inl (.inl upd_same)) (dpAll_ints nums)
    generalize upd H2 pn (.tup (nums.map V.int)) = Hn at hrow3 st3 dn3
    intro pd hpd
    have hpr : pd ≠ r := fun z => by
      subst z
      rcases hrow3.ld with ⟨_, m⟩ | ⟨_, m⟩ <;> rw [hpd] at m <;> cases m
    refine v_nm ?_
    dsimp only
    refine v_for (lo := 1) (Pv := fun n i σ' H' => n = N - 1 ∧ ∃ (y6 : Option V) (kvs : List (List Key × V)) (ks : Ties), σ' = [some (.ref r), some (.int 7), some (.int 9), some (.int (1 + t)), some (.ref pn), some (.ref pd), y6, none, none] ∧ H' pd = some (.dT kvs) ∧ kvs.map (·.1) = ks.map encT ∧ KsI N (1 + (i : Int)) ks ∧ ks.length ≤ i ∧ RowAt K r a ns H' ∧ StR T r Hn H')
      (fun R h => ⟨_, rfl, 1, 1 + t, rfl, ⟨by decide, by decide, by omega, by omega⟩, by
        have e : (1 + t - 1).toNat = N - 1 := by omega
        rw [e]
        exact h (N - 1) _ ⟨rfl, none, [], [], rfl, upd_same, rfl, KsI.nil N, Nat.le_refl _, hrow3.step (T := T) (.new hpd), (Stp.new hpd).r⟩⟩) (fun n i σ' H' hi hP => ?_) fun n σ' H' hP => ?_
    · obtain ⟨rfl, y6, kvs, ks, rfl, hd, hk, hI, hkl, hrow4, st4⟩ := hP
      refine ⟨_, rfl, ?_⟩
      refine v_taken (T := T) rfl hrow4 (ev_var (k := 6) rfl) (by omega) (by omega) fun u H5 hu0 hu1 hrow5 he5 st5 => ⟨_, rfl, by show 2 ≤ sizeLine; decide, fun b hb => ?_⟩
      have hd5 : H5 pd = some (.dT kvs) := (he5 pd hpr).trans hd
      have hbd : b ≠ pd := fun z => by
        subst z
        rw [hb] at hd5
        cases hd5
      have hd6 : (upd H5 b (.tup [.int u, .int (1 + (i : Int))])) pd = some (.dT kvs) := by
        rw [upd_ne hbd.symm]
        exact hd5
      have hkl2 : kvs.length = ks.length := by
        have := congrArg List.length hk
        rwa [List.length_map, List.length_map] at this
      refine ⟨pd, _, rfl, DPut.t (k := encT (u, 1 + (i : Int))) hd6 upd_same (sz_smaller (by omega)), rfl, _, _, addT ks (u, 1 + (i : Int)), rfl, upd_same, putK_ties _ _ hk, ?_, ?_, ?_, ?_⟩
      · have := hI.next (y := u) (by omega) (by omega) (by omega)
        have e : (1 : Int) + ((i + 1 : Nat) : Int) = 1 + (i : Int) + 1 := by omega
        rw [e]
        exact this
      · have := addT_len ks (u, 1 + (i : Int))
        omega
      · exact (hrow5.step (T := T) (.new hb)).mut (st4.trans (st5.trans (Stp.new hb).r)) hrow3 hpd
      · exact (st4.trans (st5.trans (Stp.new hb).r)).mut hpd (.inr ⟨_, hd6⟩)
    · obtain ⟨rfl, y6, kvs, ks, rfl, hd, hk, hI, hkl, hrow4, st4⟩ := hP
      have eN : (1 : Int) + ((N - 1 : Nat) : Int) = N := by omega
      rw [eN] at hI
      dsimp only
      refine v_for (lo := 0) (Pv := fun n i σ' H' => n ≤ 4 ∧ (n = 0 ∨ 2 ≤ N) ∧ ∃ (y6 y7 y8 : Option V) (kvs : List (List Key × V)) (ks : Ties), σ' = [some (.ref r), some (.int 7), some (.int 9), some (.int (1 + t)), some (.ref pn), some (.ref pd), y6, y7, y8] ∧ H' pd = some (.dT kvs) ∧ kvs.map (·.1) = ks.map encT ∧ KsI N N ks ∧ ks.length ≤ 6 + i ∧ RowAt K r a ns H' ∧ StR T r Hn H')
        (fun R h => ?_) (fun n i σ' H' hi hP => ?_) fun n σ' H' hP => ?_
      · refine ⟨_, rfl, 1 + t, 1, rfl, rfl, _, rfl, ?_⟩
        by_cases hc : (1 : Int) < 1 + t
        · rw [decide_eq_true hc]
          refine v_taken (T := T) rfl hrow4 ev_c (by decide) (by decide) fun u H5 hu0 hu1 hrow5 he5 st5 => ⟨_, rfl, by omega, by omega, ?_⟩
          exact h u.toNat H5 ⟨by omega, .inr (by omega), _, _, _, kvs, ks, rfl, (he5 pd hpr).trans hd, hk, hI, by omega, hrow5, st4.trans st5⟩
        · rw [decide_eq_false hc]
          exact ⟨_, rfl, by decide, by decide, h 0 _ ⟨by decide, .inl rfl, _, _, _, kvs, ks, rfl, hd, hk, hI, by omega, hrow4, st4⟩⟩
      · obtain ⟨hn4, hn2, y6', y7, y8, kvs', ks', rfl, hd', hk', hI', hkl', hrow5, st5⟩ := hP
        have h2 : 2 ≤ N := hn2.resolve_left (by omega)
        refine v_taken (T := T) rfl hrow5 (ev_I0 (g := fun i j => .int (i - j)) (ev_var (k := 3) rfl) ev_c) (by omega) (by omega) fun u H6 hu0 hu1 hrow6 he6 st6 => ?_
        refine ⟨_, rfl, ?_⟩
        refine ⟨_, rfl, ?_⟩
        refine ⟨_, rfl, u, 1, rfl, rfl, ?_⟩
        refine v_taken (T := T) rfl hrow6 (ev_I0 (g := fun i j => .int (i - j)) (ev_I0 (g := fun i j => .int (i - j)) (ev_var (k := 3) rfl) ev_c) (ev_var (k := 8) rfl)) (by omega) (by omega) fun u2 H7 hv0 hv1 hrow7 he7 st7 => ⟨_, _, rfl, rfl, by show 2 ≤ sizeLine; decide, fun b hb => ?_⟩
        have hd7 : H7 pd = some (.dT kvs') := (he7 pd hpr).trans ((he6 pd hpr).trans hd')
        have hbd : b ≠ pd := fun z => by
          subst z
          rw [hb] at hd7
          cases hd7
        have hd8 : (upd H7 b (.tup [.int u, .int (u + 1 + u2)])) pd = some (.dT kvs') := by
          rw [upd_ne hbd.symm]
          exact hd7
        have hkl2 : kvs'.length = ks'.length := by
          have := congrArg List.length hk'
          rwa [List.length_map, List.length_map] at this
        have st8 := st5.trans (st6.trans (st7.trans (Stp.new (o := .tup [.int u, .int (u + 1 + u2)]) hb).r))
        refine ⟨pd, _, rfl, DPut.t (k := encT (u, u + 1 + u2)) hd8 upd_same (sz_smaller (by omega)), hn4, hn2, _, _, _, _, addT ks' (u, u + 1 + u2), rfl, upd_same, putK_ties _ _ hk', ?_, ?_, ?_, ?_⟩
        · exact hI'.add (t := (u, u + 1 + u2)) hu0 (by show u < u + 1 + u2; omega) (by show u + 1 + u2 < (N : Int); omega)
        · have := addT_len ks' (u, u + 1 + u2)
          omega
        · exact (hrow7.step (T := T) (.new hb)).mut st8 hrow3 hpd
        · exact st8.mut hpd (.inr ⟨_, hd8⟩)
      · obtain ⟨hn4, hn2, y6', y7, y8, kvs', ks', rfl, hd', hk', hI', hkl', hrow5, st5⟩ := hP
        refine ⟨_, rfl, _, rfl, pd, kvs', rfl, .inl hd', fun pl bs hpl hbs => ?_⟩
        obtain ⟨q1, q2⟩ := isKeys_ties hbs hk'
        refine ⟨pl, bs.map V.ref, tieAt H', rfl, .inl (.inl upd_same), fun x hx => ?_, fun ys ps so sb hps => ?_⟩
        · obtain ⟨b, e, hb⟩ := q2 x hx
          exact ⟨b, e, by rw [upd_ne (ne_of_none hb hpl)]; exact hb⟩
        · refine .inl ⟨ps, ys, rfl, .inl (.inl upd_same), fun pt hpt => ⟨by show 2 ≤ sizeLine; decide, fun pw hpw => ?_⟩⟩
          have hst : Stp T H' (upd (upd (upd (upd H' pl (.lst (bs.map V.ref))) ps (.lst ys)) pt (.tup ys)) pw (.tup [.ref pn, .ref pt])) := (((Stp.new hpl).upd hps).upd hpt).upd hpw
          have hlt : (upd (upd (upd (upd H' pl (.lst (bs.map V.ref))) ps (.lst ys)) pt (.tup ys)) pw (.tup [.ref pn, .ref pt])) pt = some (.tup ys) := by
            rw [upd_ne (fun z => by rw [← z, upd_same] at hpw; cases hpw), upd_same]
          have W : Web nums (ys.map (tieAt H')) := by
            rw [← hlen] at hI' hN1 hN7
            refine hI'.web hN1 hN7 hm ?_ (List.pairwise_map.mpr so)
            rw [← q1]
            exact sb.perm.map _
          refine q _ _ nums (ys.map (tieAt H')) W (.tup (.inl (.inl upd_same)) (.cons ?_ (.cons (.tup (.inl (.inl hlt)) (dpAll_ties fun x hx => ?_)) .nil))) (hrow5.step hst) (st3.trans (st5.trans hst.r))
          · exact hst.dp ((st5.tk hrow3.ld).dp (to_lot _) dn3)
          · obtain ⟨b, e, hb⟩ := q2 x (sb.perm.mem_iff.mp hx)
            exact ⟨b, e, hst.tup hb⟩)
end
end Dw

/-! The law. -/
namespace Dw
open PySem PySem.Spec PyProof.Rows L2 LamX
open Classical
def SpLaw (T : List (Addr × Str)) (K : PySem.W.Frag) : Sp := fun vs H Q _ => ∃ (a : Addr) (ns : List Int), vs = [.ref a] ∧ Tabs T H ∧ SqL K H a (ns.map V.int) ∧ ns.length ≤ 63 ∧ ∀ H', Q (.bl true) H'
theorem low_map {nums som : List Int} : (everyone nums.length).map (fun x => PyData.int (if x ∈ som then minL nums else num nums x)) = (lower nums som).map PyData.int := by
  unfold everyone lower
  rw [List.map_map, List.map_map]
  rfl
theorem lawGood_and {nums : List Int} {ts : Ties} {lot som : List Int} (h : (som.filter fun o => decide (o ∉ lot)).isEmpty = true) : lawGood nums ts lot som = (deep (lower nums som) ts nums.length lot).isEmpty := by
  have h1 : ∀ x ∈ som, x ∈ lot := fun x hx => by
    by_cases c : x ∈ lot
    · exact c
    · have hm : x ∈ som.filter fun o => decide (o ∉ lot) := List.mem_filter.mpr ⟨hx, decide_eq_true c⟩
      rw [List.isEmpty_iff.mp h] at hm
      cases hm
  unfold lawGood
  cases hd : deep (lower nums som) ts nums.length lot with
  | nil => exact decide_eq_true ⟨h1, rfl⟩
  | cons b r => exact decide_eq_false fun z => by cases z.2
theorem lawGood_not {nums : List Int} {ts : Ties} {lot som : List Int} (h : (som.filter fun o => decide (o ∉ lot)).isEmpty = false) : lawGood nums ts lot som = false := by
  unfold lawGood
  refine decide_eq_false fun z => ?_
  have h0 : som.filter (fun o => decide (o ∉ lot)) = [] := List.filter_eq_nil_iff.mpr fun x hx => by
    rw [decide_eq_true_eq]
    exact fun c => c (z.1 x hx)
  rw [h0] at h
  cases h
section
variable {P : Program} {w : World} {K : PySem.W.Frag} {mg : Str → Option Value} {base : Heap} {T : List (Addr × Str)} {f : Addr} {fd : FuncData} {σ : L2.St} {H H' : Hp} {te ta tb : TE} {v x y : V} {i j : Int} {r a : Addr} {ns : List Int} {ds es : List PyData}
/-- x + y of new lists -/
theorem el_cat2 (ha : EL T K ta σ H ds) (hb : EL T K tb σ H es) (hz : ds.length + es.length ≤ 100000) : EL T K (tOp rCat ta tb) σ H (ds ++ es) := fun H1 e Q q =>
  ha H1 e _ fun p xs H2 np e2 h2 dxs => hb H2 (e.trans e2) _ fun p2 ys H3 np2 e3 h3 dys => ⟨p, p2, xs, ys, rfl, rfl, e3.lst h2, h3, by
    rw [DpAll.length dxs, DpAll.length dys]
    exact sz_small hz, fun p' hp => q p' _ _ (.back (e2.trans e3) (.of hp)) ((e2.trans e3).upd hp) upd_same ((Stp.new (T := T) hp).dpAll (DpAll.append dys (e3.dpAll dxs)))⟩
theorem row_start {r a : Addr} (h : SqL K H a (ns.map V.int)) (hl : ns.length ≤ 63) (hr : H r = none) : RowAt K r a ns (upd H r (.lst [.ref a, .int 0, .int 4834, .int 0])) := by
  have key : ∀ H', (∀ b, b ≠ r → H' b = H b) → SqL K H' a (ns.map V.int) := fun H' e => by
    rcases h with (h | ⟨o, h⟩) | h
    · exact .inl (.inl ((e a (ne_of_none h hr)).trans h))
    · exact .inl (.inr ⟨o, (e a (ne_of_none h hr)).trans h⟩)
    · exact .inr h
  exact ⟨⟨key _ fun b hb => upd_ne hb, hl, fun H' e => key H' fun b hb => (e b hb).trans (upd_ne hb)⟩, 0, 4834, 0, upd_same, by decide, by decide, by decide, by decide⟩
theorem ok_law (F : Dfn K mg "law" sLaw f fd ["_law_script"]) (B : Blt mg) (cLawWeb : Cal P w K mg base 2 "_law_web" (SpWeb T K)) (cLawLot : Cal P w K mg base 2 "_law_lot" (SpLot T K)) (cLawLots : Cal P w K mg base 1 "_law_lots" (SpL T K RLawLots))
    (cLawAlike : Cal P w K mg base 4 "_law_alike" (SpD T K (RAlike 4))) (cLowered : Cal P w K mg base 5 "lowered" (SpD T K RLowered)) (cLawDeep : Cal P w K mg base 3 "_law_deep" (SpL T K RLawDeep)) (cFewestLowered : Cal P w K mg base 6 "fewest_lowered" (SpDT T K RFewestLow))
    (cLeastLowered : Cal P w K mg base 6 "least_lowered" (SpDT T K RLeastLow)) (cCost : Cal P w K mg base 6 "cost" (SpD T K RCost)) : FnOk P w K mg base CX0 7 f fd ["_law_script"] (SpLaw T K) := F.fn.ok scLaw (fun vs H Q E h => by
  obtain ⟨_, _, rfl, _⟩ := h
  rfl) fun cdv A outer s H vs Q E hr h => by
  obtain ⟨a, ns, rfl, tab, hs, hl, q⟩ := h
  refine ⟨_, (pss_cons (ps_set (i := 1) scLaw.nd rfl (by first | exact .inl rfl | exact .inr rfl) (pe_lst (pa_cons (pv 0) (pa_cons pe_int (pa_cons pe_int (pa_cons pe_int pa_nil))))))
    (pss_cons (ps_set (i := 2) scLaw.nd rfl (by first | exact .inl rfl | exact .inr rfl) (pe_k cLawWeb hr (by decide) (by rfl) (pa_cons (pv 1) (pa_cons pe_int (pa_cons pe_int pa_nil)))))
    (pss_cons (ps_asg (pe_tup (pa_cons (pe_k cLawLot hr (by decide) (by rfl) (pa_cons (pv 1) (pa_cons (pe_callB (r := rLenS K) call_len_seq (by rfl) B.len PySem.boot_len (pa_cons (pe_ix (r := rIxT K) ix_tup (pv 2) pe_int (fun _ _ => rfl)) pa_nil)) pa_nil))) (pa_cons (pe_callB (r := rMinT K) (cr_minT rfl hr.units) (by rfl) B.min PyProof.Rows.boot_min (pa_cons (pe_ix (r := rIxT K) ix_tup (pv 2) pe_int (fun _ _ => rfl)) pa_nil)) (pa_cons (pe_lst pa_nil) pa_nil)))) (pg_tup rfl (pgs_cons (pg_name (i := 3) scLaw.nd rfl (by first | exact .inl rfl | exact .inr rfl)) (pgs_cons (pg_name (i := 4) scLaw.nd rfl (by first | exact .inl rfl | exact .inr rfl)) (pgs_cons (pg_name (i := 5) scLaw.nd rfl (by first | exact .inl rfl | exact .inr rfl)) pgs_nil)))))
    (pss_cons (ps_for PassesOwn.never rfl (pi_list (pe_op op_cat (pe_lst (pa_cons (pe_tup pa_nil) pa_nil)) (pe_k cLawLots hr (by decide) (by rfl) (pa_cons (pe_callB (r := rLenS K) call_len_seq (by rfl) B.len PySem.boot_len (pa_cons (pe_ix (r := rIxT K) ix_tup (pv 2) pe_int (fun _ _ => rfl)) pa_nil)) pa_nil)))) (pg_name (i := 6) scLaw.nd rfl (by first | exact .inl rfl | exact .inr rfl))
      (pss_one (ps_if (pt_cmpR (r := rEqD K) (op_eqD hr.units) (pe_lc (own := [("_law_one", 8)]) (wi := iTup K _) (g := (gName 8)) rfl scLaw.nd (pi_tup (pv 6)) (blkOk_by (by first | decide +kernel | kernel_rfl | rfl)) (fun _ _ _ _ _ => (pg_name (i := 8) scLaw.nd rfl (by first | exact .inl rfl | exact .inr rfl))) (fun _ _ _ _ _ => (pts_one (pt_cmpR (r := rIn K true) op_notIn_seq (pv 8) (pv 3) (by rfl)))) (fun _ _ _ _ _ => (pv 8))) (pe_lst pa_nil) (nomark _))
      (pss_cons (ps_set (i := 7) scLaw.nd rfl (by first | exact .inl rfl | exact .inr rfl) (pe_tupleOf (by rfl) B.tuple (pe_lc (own := [("_law_one", 8)]) (wi := iRng1 _) (g := (gName 8)) rfl scLaw.nd (pi_range1 (by rfl) B.range (pa_cons (pe_callB (r := rLenS K) call_len_seq (by rfl) B.len PySem.boot_len (pa_cons (pe_ix (r := rIxT K) ix_tup (pv 2) pe_int (fun _ _ => rfl)) pa_nil)) pa_nil)) (blkOk_by (by first | decide +kernel | kernel_rfl | rfl)) (fun _ _ _ _ _ => (pg_name (i := 8) scLaw.nd rfl (by first | exact .inl rfl | exact .inr rfl))) (fun _ _ _ _ _ => pts_nil) (fun _ _ _ _ _ => (pe_ifExp (pt_cmpR (r := rIn K false) op_in_seq (pv 8) (pv 6) (by rfl)) (pv 4) (pe_ix (r := rIxT K) ix_tup (pe_ix (r := rIxT K) ix_tup (pv 2) pe_int (fun _ _ => rfl)) (pv 8) (fun _ _ => rfl)))))))
    (pss_cons (ps_if (pt_not (pt_val (pe_k cLawAlike hr (by decide) (by rfl) (pa_cons (pe_k cLowered hr (by decide) (by rfl) (pa_cons (pv 2) (pa_cons (pv 6) pa_nil))) (pa_cons (pe_tup (pa_cons (pv 7) (pa_cons (pe_ix (r := rIxT K) ix_tup (pv 2) pe_int (fun _ _ => rfl)) pa_nil))) pa_nil)))))
      (pss_one (ps_ret pe_bl))
      pss_nil)
    (pss_one (ps_if (pt_cmpR (r := rEqD K) (op_eqD hr.units) (pe_k cLawDeep hr (by decide) (by rfl) (pa_cons (pe_tup (pa_cons (pv 7) (pa_cons (pe_ix (r := rIxT K) ix_tup (pv 2) pe_int (fun _ _ => rfl)) pa_nil))) (pa_cons (pv 3) pa_nil))) (pe_lst pa_nil) (nomark _))
      (pss_one (ps_expr (pe_bm PySem.F.plainAttrs_list PySem.F.slot_list_append PySem.F.type_list_append mt_append (pv 5) (pa_cons (pv 6) pa_nil))))
      pss_nil))))
      pss_nil)))
    (pss_cons (ps_if (pt_not (pt_val (pe_k cLawAlike hr (by decide) (by rfl) (pa_cons (pe_lst (pa_cons (pe_k cFewestLowered hr (by decide) (by rfl) (pa_cons (pv 2) (pa_cons (pv 3) pa_nil))) (pa_cons (pe_k cLeastLowered hr (by decide) (by rfl) (pa_cons (pv 2) (pa_cons (pv 3) pa_nil))) pa_nil))) (pa_cons (pe_lst (pa_cons (pe_callB (r := rLenS K) call_len_seq (by rfl) B.len PySem.boot_len (pa_cons (pe_ix (r := rIxL K) ix_list (pv 5) pe_int (fun _ _ => rfl)) pa_nil)) (pa_cons (pe_ix (r := rIxL K) ix_list (pv 5) pe_int (fun _ _ => rfl)) pa_nil))) pa_nil)))))
      (pss_one (ps_ret pe_bl))
      pss_nil)
    (pss_one (ps_ret (pe_cmpR op_eq (pe_k cCost hr (by decide) (by rfl) (pa_cons (pe_k cLowered hr (by decide) (by rfl) (pa_cons (pv 2) (pa_cons (pe_k cLeastLowered hr (by decide) (by rfl) (pa_cons (pv 2) (pa_cons (pv 3) pa_nil))) pa_nil))) (pa_cons (pv 3) pa_nil))) pe_int (nomark _))))))))), ?_⟩
  refine ⟨_, rfl, by show 4 ≤ sizeLine; decide, fun r hr0 => ?_⟩
  have hrow1 := row_start hs hl hr0
  have sR : Stp T H (upd H r (.lst [.ref a, .int 0, .int 4834, .int 0])) := .new hr0
  generalize upd H r (.lst [.ref a, .int 0, .int 4834, .int 0]) = H1 at hrow1 sR
  refine v_nm ?_
  dsimp only
  refine ⟨_, rfl, r, a, ns, rfl, hrow1, fun v H2 nums ts W dv hrow2 st2 => ?_⟩
  refine v_nm ?_
  dsimp only
  have hpos := W.pos
  have hle := W.le
  have htl := W.tlen
  have hne : nums ≠ [] := List.length_pos_iff.mp hpos
  refine ⟨_, rfl, ?_⟩
  refine ed_lenLot (T := T) (K := K) (nums := nums) (ed_web0 (ts := ts) (ed_var (i := 2) rfl dv)) H2 (Stp.refl _) _ fun vlen H3 e3 dlen => ?_
  obtain rfl := dp_int dlen
  refine ⟨r, a, ns, nums.length, rfl, hrow2.step e3, hpos, hle, fun vl H4 lot L dl hrow4 st4 => ?_⟩
  have dv4 := (st4.tk (hrow2.step e3).ld).dp (to_web _ _) (e3.dp dv)
  have s4 : Stp T H H4 := StR.stp sR hr0 (st2.trans (e3.r.trans st4))
  refine ed_minT (T := T) (K := K) (ns := nums) (σ := [some (.ref a), some (.ref r), some v, none, none, none, none, none, none]) (ed_web0 (ts := ts) (ed_var (i := 2) rfl dv4)) hne H4 (Stp.refl _) _ fun vlow H5 e5 dlow => ?_
  obtain rfl := dp_int dlow
  have s5 := s4.trans e5
  have dv5 := e5.dp dv4
  have dl5 := e5.dp dl
  refine ⟨by show 0 ≤ sizeLine; decide, fun pg hpg => ⟨by show 3 ≤ sizeLine; decide, fun pt hpt => ⟨pt, [vl, .int (minL nums), .ref pg], rfl, .inl (.inl upd_same), rfl, _, _, rfl, _, _, rfl, _, _, rfl, rfl, ?_⟩⟩⟩
  have hng : pt ≠ pg := fun z => by
    rw [z, upd_same] at hpt
    cases hpt
  have s6 : Stp T H5 (upd (upd H5 pg (.lst [])) pt (.tup [vl, .int (minL nums), .ref pg])) := (Stp.new hpg).upd hpt
  have hg6 : (upd (upd H5 pg (.lst [])) pt (.tup [vl, .int (minL nums), .ref pg])) pg = some (.lst []) := by rw [upd_ne hng.symm, upd_same]
  generalize upd (upd H5 pg (.lst [])) pt (.tup [vl, .int (minL nums), .ref pg]) = H6 at s6 hg6
  dsimp only
  have hLl := LOTS_len nums.length
  have hpow : 2 ^ nums.length ≤ 2 ^ 7 := Nat.pow_le_pow_right (by decide) hle
  have hcons : (([] : List Int) :: LOTS nums.length).length ≤ 129 := by
    rw [List.length_cons]
    omega
  have hall : ∀ som ∈ ([] : List Int) :: LOTS nums.length, som = [] ∨ Lot nums.length som := fun som hm => by
    rcases List.mem_cons.mp hm with z | z
    · exact .inl z
    · exact .inr (LOTS_mem.mp z)
  have tabs : ∀ H', Stp T H5 H' → Tabs T H' := fun H' e => (s5.trans e).2 tab
  refine s_forL (T := T) (K := K) (ds := (([] : List Int) :: LOTS nums.length).map dLot) (el_cat2 (ds := [dLot []]) (el_lst (ea_one (ed_tup ea_nil (by decide))) (by decide)) (el_call (ea_one (ed_lenLot (ed_web0 (ts := ts) (ed_var (i := 2) rfl (s6.dp dv5))))) ⟨nums.length, rfl, hle, rfl⟩) (by
      rw [List.length_map]
      show 1 + _ ≤ 100000
      omega))
    (fun p xs H1 i σ' H' => ∃ (y6 y7 : Option V) (ys : List V), σ' = [some (.ref a), some (.ref r), some v, some vl, some (.int (minL nums)), some (.ref pg), y6, y7, none] ∧ Stp T H5 H' ∧ Tk H1 H' ∧ H' p = some (.lst xs) ∧ p ≠ pg ∧ H' pg = some (.lst ys) ∧ DpAll K H' ys ((((([] : List Int) :: LOTS nums.length).take i).filter (lawGood nums ts lot)).map dLot))
    (fun p xs H1 np e1 h1 dxs => ⟨none, none, [], rfl, s6.trans e1, Tk.refl _, h1, np pg [] hg6, e1.lst hg6, .nil⟩) (fun p xs H1 i σ' H' hP => by
      obtain ⟨_, _, _, _, _, _, h, _⟩ := hP
      exact h) (fun p xs H1 i y d σ' H' e1 dxs hx hd dy hP => ?_) (fun p xs H1 σ' H' e1 hP => ?_)
  · obtain ⟨y6, y7, ys, rfl, sH, tk, hp, hn, hg, dys⟩ := hP
    rw [List.getElem?_map] at hd
    cases hq : (([] : List Int) :: LOTS nums.length)[i]? with
    | none => rw [hq] at hd; cases hd
    | some som =>
      rw [hq] at hd
      cases hd
      have hsm := hall som (List.mem_of_getElem? hq)
      have hsl : som.length ≤ 7 := by
        rcases hsm with z | z
        · subst z
          exact Nat.zero_le _
        · have := z.len
          omega
      have dy' := tk.dp (to_lot _) dy
      have dv' := sH.dp dv5
      have dl' := sH.dp dl5
      have tk2 : (([] : List Int) :: LOTS nums.length).take (i + 1) = (([] : List Int) :: LOTS nums.length).take i ++ [som] := by rw [List.take_add_one, hq]; rfl
      have hyl : ys.length ≤ 129 := by
        have h1 := DpAll.length dys
        rw [List.length_map] at h1
        have h2 := List.length_filter_le (lawGood nums ts lot) ((([] : List Int) :: LOTS nums.length).take i)
        rw [List.length_take] at h2
        omega
      refine s_if (T := T) (b := (som.filter fun o => decide (o ∉ lot)).isEmpty) ((et_test (ed_eqNilL (K := K) (ds := (som.filter fun o => decide (o ∉ lot)).map PyData.int) (el_lc1 (j := 8) (vs := [8]) som PyData.int (fun o => decide (o ∉ lot)) PyData.int (eit_tup (ed_var (i := 6) rfl dy') (tupOnlyAll_map to_int _)).i (by omega) (fun _ => rfl)
        (fun o ho z H2 e2 dz => et_test (ed_notin (ed_var (i := 8) rfl dz) (ed_var (i := 3) rfl (e2.dp dl')) (.inl rfl))) (fun o ho z H2 e2 dz _ => ed_var (i := 8) rfl dz) to_int).ed (shaped_ints _).2)).is (by rw [isEmpty_map])) (fun hb H2 e2 => ?_) (fun hb H2 e2 => ?_)
      · have dv2 := e2.dp dv'
        have dl2 := e2.dp dl'
        have dy2 := e2.dp dy'
        refine s_asg (T := T) (K := K) (d := dLot (lower nums som)) (ed_tupleOf ((el_lc1m (j := 8) (vs := [8]) (everyone nums.length) PyData.int (fun x => PyData.int (if x ∈ som then minL nums else num nums x)) (eit_rng1 (n := (nums.length : Int)) (ea_one (ed_lenLot (ed_web0 (ts := ts) (ed_var (i := 2) rfl dv2)))) (by omega) (by omega)).i (by rw [everyone_len]; omega) (fun _ => rfl)
          (fun x hx z H3 e3 dz => ed_if (et_test (ed_in (K := K) (ns := som) (ed_var (i := 8) rfl dz) (ed_var (i := 6) rfl (e3.dp dy2)) (.inl rfl)))
            (fun hb => (ed_var (i := 4) rfl (.int _)).is (by
              rw [decide_eq_true_eq] at hb
              rw [if_pos hb])) (fun hb => (ed_ixT (ds := nums.map PyData.int) (ed_web0 (ts := ts) (ed_var (i := 2) rfl (e3.dp dv2))) (ed_var (i := 8) rfl dz) (everyone_mem.mp hx).1 (by rw [List.getElem?_map, num_get (everyone_mem.mp hx).1 (everyone_mem.mp hx).2]; rfl)).is (by
              rw [decide_eq_false_iff_not] at hb
              rw [if_neg hb]))) (fun _ => rfl)).ed.is (by rw [low_map]))) fun vn H3 e3 dn => ?_
        have dv3 := e3.dp dv2
        have dl3 := e3.dp dl2
        have dy3 := e3.dp dy2
        refine s_if (T := T) (b := !true) (et_not (et_B (ed_call (K := K) (R := RAlike 4) (d := .bool true) (ea_cons (d := dWeb (lower nums som) ts) (ed_call (ea_cons (ed_var (i := 2) rfl dv3) (ea_one (ed_var (i := 6) rfl dy3))) ⟨nums, ts, som, rfl, W, hsm, rfl⟩) (ea_one (ed_tup (ea_cons (ed_var (i := 7) rfl dn) (ea_one (ed_web1 (nums := nums) (ed_var (i := 2) rfl dv3)))) (by show 2 ≤ 100000; decide))))
          ⟨_, rfl, okD_web _ _ (by rw [lower_len]; omega) (by omega), rfl⟩))) (fun z => absurd z (by decide)) fun _ H4 e4 => ?_
        have dv4 := e4.dp dv3
        have dl4 := e4.dp dl3
        have dy4 := e4.dp dy3
        have dn4 := e4.dp dn
        have se := e2.trans (e3.trans e4)
        refine s_if (T := T) (b := lawGood nums ts lot som) ((et_test (ed_eqNilL (K := K) (ds := (deep (lower nums som) ts nums.length lot).map dLot) (el_call (ea_cons (d := dWeb (lower nums som) ts) (ed_tup (ea_cons (ed_var (i := 7) rfl dn4) (ea_one (ed_web1 (nums := nums) (ed_var (i := 2) rfl dv4)))) (by show 2 ≤ 100000; decide)) (ea_one (ed_var (i := 3) rfl dl4)))
          ⟨lower nums som, ts, lot, rfl, lower_web W som, by rw [lower_len]; exact L, by rw [lower_len]⟩).ed (shaped_lots _).2)).is (by rw [isEmpty_map, lawGood_and hb])) (fun hb2 H7 e7 => ?_) (fun hb2 H7 e7 => ?_)
        · have sf := se.trans e7
          refine s_push (T := T) (K := K) (d := dLot som) (i := 5) (l := pg) rfl (sf.lst hg) (ed_var (i := 6) rfl (e7.dp dy4)) (by omega) fun vv H8 e8 dvv hl8 => ?_
          have tkm : Tk H8 (upd H8 pg (.lst (ys ++ [vv]))) := Tk.mut (LD.mut (LD.l hl8))
          refine ⟨_, _, ys ++ [vv], rfl, (sH.trans (sf.trans e8)).mut hpg (LD.l hl8), (tk.trans (sf.trans e8).tk).trans tkm, ?_, hn, upd_same, ?_⟩
          · rw [upd_ne hn]
            exact (sf.trans e8).lst hp
          · rw [tk2, List.filter_append, List.map_append, List.filter_cons_of_pos hb2]
            exact DpAll.snoc (tkm.dp (to_lot _) dvv) (tkm.dpAll (tupOnlyAll_map to_lot _) ((sf.trans e8).dpAll dys))
        · have sf := se.trans e7
          refine ⟨_, _, ys, rfl, sH.trans sf, tk.trans sf.tk, sf.lst hp, hn, sf.lst hg, ?_⟩
          rw [tk2, List.filter_append, List.filter_cons_of_neg (by rw [hb2]; decide)]
          simpa using sf.dpAll dys
      · refine ⟨_, _, ys, rfl, sH.trans e2, tk.trans e2.tk, e2.lst hp, hn, e2.lst hg, ?_⟩
        rw [tk2, List.filter_append, List.filter_cons_of_neg (by rw [lawGood_not hb]; decide)]
        simpa using e2.dpAll dys
  · obtain ⟨y6, y7, ys, rfl, sH, tk, hp, hn, hg, dys⟩ := hP
    rw [List.length_map, List.take_length] at dys
    have hlm : lot ∈ LOTS nums.length := LOTS_mem.mpr L
    obtain ⟨rs, hgh⟩ := good_head W L hlm
    have hfree := leastLow_free W L hlm
    have hlow := (leastLow_good W L hlm).2
    rw [hgh] at dys
    have hll : (leastLow (LOTS nums.length) nums ts lot).length ≤ 7 := by
      rcases hlow with z | z
      · rw [z]
        exact Nat.zero_le _
      · have := (LOTS_mem.mp z).len
        omega
    have hsm : leastLow (LOTS nums.length) nums ts lot = [] ∨ Lot nums.length (leastLow (LOTS nums.length) nums ts lot) := hlow.imp id fun z => LOTS_mem.mp z
    have dg : Dp K H' (.ref pg) (dLotsL (leastLow (LOTS nums.length) nums ts lot :: rs)) := .lst (.inl (.inl hg)) dys
    have dv' := sH.dp dv5
    have dl' := sH.dp dl5
    have tab' := tabs H' sH
    refine s_if (T := T) (b := !true) (et_not (et_B (ed_call (K := K) (R := RAlike 4) (d := .bool true) (ea_cons (d := .list [.int (leastLow (LOTS nums.length) nums ts lot).length, dLot (leastLow (LOTS nums.length) nums ts lot)])
      (el_lst (ea_cons (ed_callT tab' (ea_cons (ed_var (i := 2) rfl dv') (ea_one (ed_var (i := 3) rfl dl'))) ⟨nums, ts, lot, rfl, W, L, rfl⟩) (ea_one (ed_callT tab' (ea_cons (ed_var (i := 2) rfl dv') (ea_one (ed_var (i := 3) rfl dl'))) ⟨nums, ts, lot, rfl, W, L, rfl⟩))) (by show 2 ≤ 100000; decide)).ed
      (ea_one (el_lst (ea_cons (ed_lenLot (ed_ixL (ds := (leastLow (LOTS nums.length) nums ts lot :: rs).map dLot) (ed_var (i := 5) rfl dg) ed_int (by decide) rfl)) (ea_one (ed_ixL (ds := (leastLow (LOTS nums.length) nums ts lot :: rs).map dLot) (ed_var (i := 5) rfl dg) ed_int (by decide) rfl))) (by show 2 ≤ 100000; decide)).ed))
      ⟨_, rfl, okD_pair _ _ (by omega), rfl⟩))) (fun z => absurd z (by decide)) fun _ H2 e2 => ?_
    have dv2 := e2.dp dv'
    have dl2 := e2.dp dl'
    have tab2 := e2.2 tab'
    refine s_ret (T := T) (K := K) (d := .bool true) ((ed_eqI (ed_call (ea_cons (d := dWeb (lower nums (leastLow (LOTS nums.length) nums ts lot)) ts) (ed_call (ea_cons (ed_var (i := 2) rfl dv2) (ea_one (ed_callT tab2 (ea_cons (ed_var (i := 2) rfl dv2) (ea_one (ed_var (i := 3) rfl dl2))) ⟨nums, ts, lot, rfl, W, L, rfl⟩))) ⟨nums, ts, _, rfl, W, hsm, rfl⟩) (ea_one (ed_var (i := 3) rfl dl2)))
      ⟨lower nums (leastLow (LOTS nums.length) nums ts lot), ts, lot, rfl, lower_web W _, by rw [lower_len]; exact L, rfl⟩) ed_int).is (by
        rw [lower_len, hfree]
        rfl)) fun vv H3 e3 dvv => ?_
    obtain rfl := dp_bool dvv
    exact q H3
end
end Dw

/-! What the program's top has left; the law at the head's heap. -/
namespace Dw
open PySem PySem.Spec PyProof.Rows L2 LamX
/-- a def of the top, in the written part -/
structure Here (K : PySem.W.Frag) (x : Str) (st : Stmt) (f : Addr) (cdv : Value) : Prop where
  a : PySem.W.nsIn K mainGlobals x = some (some (.ref f))
  l : ∃ (oc : Value) (od : Option Addr) (kV doc pm : Value) (an : Option Addr) (ct : Value) (osl : Array (Option Value)), K.lookup f = some ⟨oc, od, .func (PySem.W.fnOf x x (defArgs st) (defBody st) (defScope st) .none kV doc pm an cdv ct), osl⟩
  c : PySem.W.codeIn K cdv x = true
  k : PySem.W.keepIn K (.ref f) = true
theorem here {K : PySem.W.Frag} {h : Heap} (X : K.In h) (x : Str) (st : Stmt) (f : Addr) {oc : Value} {od : Option Addr} {kV doc pm : Value} {an : Option Addr} {cdv ct : Value} {osl : Array (Option Value)} (a : PySem.W.nsIn K mainGlobals x = some (some (.ref f)))
    (l : K.lookup f = some ⟨oc, od, .func (PySem.W.fnOf x x (defArgs st) (defBody st) (defScope st) .none kV doc pm an cdv ct), osl⟩) (c : PySem.W.codeIn K cdv x = true) (k : PySem.W.keepIn K (.ref f) = true) : Here K x st f cdv := ⟨a, ⟨_, _, _, _, _, _, _, _, l⟩, c, k⟩
theorem Here.dfn {K : PySem.W.Frag} {h : Heap} {mg : Str → Option Value} {x : Str} {st : Stmt} {f : Addr} {cdv : Value} {ps : List Str} (H : Here K x st f cdv) (X : K.In h) (G : h.Ns mainGlobals mg)
    (b : ∀ (kV doc pm : Value) (an : Option Addr) (cdv ct : Value) (us : List Value), us.length = ps.length → bindArgs (PySem.W.fnOf x x (defArgs st) (defBody st) (defScope st) .none kV doc pm an cdv ct) ⟨us, []⟩ = pure (ps.zip us)) :
    ∃ (kV doc pm : Value) (an : Option Addr) (ct : Value), Dfn K mg x st f (PySem.W.fnOf x x (defArgs st) (defBody st) (defScope st) .none kV doc pm an cdv ct) ps := by
  obtain ⟨oc, od, kV, doc, pm, an, ct, osl, l⟩ := H.l
  have F := fun_mk l H.c H.k
  exact ⟨kV, doc, pm, an, ct, F, PySem.W.mg_of X G H.a, F.binds b⟩
theorem all_mk {l : PySem.W.OpenLaw} {w : World} {K : PySem.W.Frag} {h : Heap} {mg : Str → Option Value} {fa c Pt : Addr} {tP tV : Nat} (X : K.In h) (G : h.Ns mainGlobals mg) (hfa : mg "law" = some (.ref fa)) (hT8 : h.get? Pt = some { cls := .none, data := .fields #[] }) (nT : K.lookup Pt = none) (hC : PySem.W.codeHdIn K c Pt = true)
    {f0 f1 f2 f3 f4 f5 f6 f7 f8 f9 f10 f11 f12 f13 f14 f15 f16 f17 f18 f19 f20 f21 f22 f23 f24 f25 f26 f27 f28 f29 f30 f31 : Addr} {c0 c1 c2 c3 c4 c5 c6 c7 c8 c9 c10 c11 c13 c14 c15 c16 c17 c18 c19 c20 c21 c22 c23 c24 c25 c26 c27 c28 c29 c30 c31 : Value}
    (h0 : Here K "is_int" sIsInt f0 c0)
    (h1 : Here K "is_from" sIsFrom f1 c1)
    (h2 : Here K "is_tie" sIsTie f2 c2)
    (h3 : Here K "need_web" sNeedWeb f3 c3)
    (h4 : Here K "everybody" sEverybody f4 c4)
    (h5 : Here K "tied_to" sTiedTo f5 c5)
    (h6 : Here K "hanging" sHanging f6 c6)
    (h7 : Here K "need_lot" sNeedLot f7 c7)
    (h8 : Here K "parts_of" sPartsOf f8 c8)
    (h9 : Here K "others" sOthers f9 c9)
    (h10 : Here K "border_of" sBorderOf f10 c10)
    (h11 : Here K "least_of" sLeastOf f11 c11)
    (h12 : Here K "lots_of" sLotsOf f12 (.ref c))
    (h13 : Here K "is_deep" sIsDeep f13 c13)
    (h14 : Here K "deep_of" sDeepOf f14 c14)
    (h15 : Here K "cost_of" sCostOf f15 c15)
    (h16 : Here K "cost" sCost f16 c16)
    (h17 : Here K "fewest_lowered" sFewestLowered f17 c17)
    (h18 : Here K "least_lowered_of" sLeastLoweredOf f18 c18)
    (h19 : Here K "least_lowered" sLeastLowered f19 c19)
    (h20 : Here K "lowered" sLowered f20 c20)
    (h21 : Here K "_law_taken" sLawTaken f21 c21)
    (h22 : Here K "_law_alike" sLawAlike f22 c22)
    (h23 : Here K "_law_web" sLawWeb f23 c23)
    (h24 : Here K "_law_ties" sLawTies f24 c24)
    (h25 : Here K "_law_parts" sLawParts f25 c25)
    (h26 : Here K "_law_rest" sLawRest f26 c26)
    (h27 : Here K "_law_border" sLawBorder f27 c27)
    (h28 : Here K "_law_deep" sLawDeep f28 c28)
    (h29 : Here K "_law_lots" sLawLots f29 c29)
    (h30 : Here K "_law_lot" sLawLot f30 c30)
    (h31 : Here K "law" sLaw f31 c31)
    (z0 : PySem.W.nsIn K mainGlobals "len" = some none) (z1 : PySem.W.nsIn K mainGlobals "isinstance" = some none) (z2 : PySem.W.nsIn K mainGlobals "tuple" = some none) (z3 : PySem.W.nsIn K mainGlobals "list" = some none) (z4 : PySem.W.nsIn K mainGlobals "int" = some none) (z5 : PySem.W.nsIn K mainGlobals "bool" = some none) (z6 : PySem.W.nsIn K mainGlobals "str" = some none) (z7 : PySem.W.nsIn K mainGlobals "range" = some none) (z8 : PySem.W.nsIn K mainGlobals "sorted" = some none) (z9 : PySem.W.nsIn K mainGlobals "min" = some none) (z10 : PySem.W.nsIn K mainGlobals "all" = some none) (z11 : PySem.W.nsIn K mainGlobals "any" = some none) (z12 : PySem.W.nsIn K mainGlobals "enumerate" = some none) (z13 : PySem.W.nsIn K mainGlobals "zip" = some none)
    (zP : PySem.W.nsIn K mainGlobals "MOST_PERSONS" = some (some (.int 8 tP))) (zV : PySem.W.nsIn K mainGlobals "MOST_VALUE" = some (some (.int 1000 tV))) :
    LawAtS l w K CX0 7 63 "_law_script" mg fa h := by
  have e := hfa.symm.trans (PySem.W.mg_of X G h31.a)
  cases e
  obtain ⟨_, _, _, _, _, d0⟩ := h0.dfn (ps := ["value"]) X G fun _ _ _ _ _ _ us hl => match us, hl with | [_], _ => rfl
  obtain ⟨_, _, _, _, _, d1⟩ := h1.dfn (ps := ["value", "least", "most"]) X G fun _ _ _ _ _ _ us hl => match us, hl with | [_, _, _], _ => rfl
  obtain ⟨_, _, _, _, _, d2⟩ := h2.dfn (ps := ["value", "many"]) X G fun _ _ _ _ _ _ us hl => match us, hl with | [_, _], _ => rfl
  obtain ⟨_, _, _, _, _, d3⟩ := h3.dfn (ps := ["value"]) X G fun _ _ _ _ _ _ us hl => match us, hl with | [_], _ => rfl
  obtain ⟨_, _, _, _, _, d4⟩ := h4.dfn (ps := ["web"]) X G fun _ _ _ _ _ _ us hl => match us, hl with | [_], _ => rfl
  obtain ⟨_, _, _, _, _, d5⟩ := h5.dfn (ps := ["web", "person"]) X G fun _ _ _ _ _ _ us hl => match us, hl with | [_, _], _ => rfl
  obtain ⟨_, _, _, _, _, d6⟩ := h6.dfn (ps := ["web", "person", "lot"]) X G fun _ _ _ _ _ _ us hl => match us, hl with | [_, _, _], _ => rfl
  obtain ⟨_, _, _, _, _, d7⟩ := h7.dfn (ps := ["web", "value"]) X G fun _ _ _ _ _ _ us hl => match us, hl with | [_, _], _ => rfl
  obtain ⟨_, _, _, _, _, d8⟩ := h8.dfn (ps := ["web", "lot"]) X G fun _ _ _ _ _ _ us hl => match us, hl with | [_, _], _ => rfl
  obtain ⟨_, _, _, _, _, d9⟩ := h9.dfn (ps := ["web", "lot"]) X G fun _ _ _ _ _ _ us hl => match us, hl with | [_, _], _ => rfl
  obtain ⟨_, _, _, _, _, d10⟩ := h10.dfn (ps := ["web", "part", "lot"]) X G fun _ _ _ _ _ _ us hl => match us, hl with | [_, _, _], _ => rfl
  obtain ⟨_, _, _, _, _, d11⟩ := h11.dfn (ps := ["web", "lot"]) X G fun _ _ _ _ _ _ us hl => match us, hl with | [_, _], _ => rfl
  obtain ⟨_, _, _, _, _, d12⟩ := h12.dfn (ps := ["many"]) X G fun _ _ _ _ _ _ us hl => match us, hl with | [_], _ => rfl
  obtain ⟨_, _, _, _, _, d13⟩ := h13.dfn (ps := ["web", "piece", "lot"]) X G fun _ _ _ _ _ _ us hl => match us, hl with | [_, _, _], _ => rfl
  obtain ⟨_, _, _, _, _, d14⟩ := h14.dfn (ps := ["web", "lot"]) X G fun _ _ _ _ _ _ us hl => match us, hl with | [_, _], _ => rfl
  obtain ⟨_, _, _, _, _, d15⟩ := h15.dfn (ps := ["web", "lot"]) X G fun _ _ _ _ _ _ us hl => match us, hl with | [_, _], _ => rfl
  obtain ⟨_, _, _, _, _, d16⟩ := h16.dfn (ps := ["web", "lot"]) X G fun _ _ _ _ _ _ us hl => match us, hl with | [_, _], _ => rfl
  obtain ⟨_, _, _, _, _, d17⟩ := h17.dfn (ps := ["web", "lot"]) X G fun _ _ _ _ _ _ us hl => match us, hl with | [_, _], _ => rfl
  obtain ⟨_, _, _, _, _, d18⟩ := h18.dfn (ps := ["web", "lot"]) X G fun _ _ _ _ _ _ us hl => match us, hl with | [_, _], _ => rfl
  obtain ⟨_, _, _, _, _, d19⟩ := h19.dfn (ps := ["web", "lot"]) X G fun _ _ _ _ _ _ us hl => match us, hl with | [_, _], _ => rfl
  obtain ⟨_, _, _, _, _, d20⟩ := h20.dfn (ps := ["web", "some"]) X G fun _ _ _ _ _ _ us hl => match us, hl with | [_, _], _ => rfl
  obtain ⟨_, _, _, _, _, d21⟩ := h21.dfn (ps := ["_law_row", "_law_many"]) X G fun _ _ _ _ _ _ us hl => match us, hl with | [_, _], _ => rfl
  obtain ⟨_, _, _, _, _, d22⟩ := h22.dfn (ps := ["_law_found", "_law_due"]) X G fun _ _ _ _ _ _ us hl => match us, hl with | [_, _], _ => rfl
  obtain ⟨_, _, _, _, _, d23⟩ := h23.dfn (ps := ["_law_row", "_law_most", "_law_high"]) X G fun _ _ _ _ _ _ us hl => match us, hl with | [_, _, _], _ => rfl
  obtain ⟨_, _, _, _, _, d24⟩ := h24.dfn (ps := ["_law_web_here", "_law_person"]) X G fun _ _ _ _ _ _ us hl => match us, hl with | [_, _], _ => rfl
  obtain ⟨_, _, _, _, _, d25⟩ := h25.dfn (ps := ["_law_web_here", "_law_lot_here"]) X G fun _ _ _ _ _ _ us hl => match us, hl with | [_, _], _ => rfl
  obtain ⟨_, _, _, _, _, d26⟩ := h26.dfn (ps := ["_law_web_here", "_law_lot_here"]) X G fun _ _ _ _ _ _ us hl => match us, hl with | [_, _], _ => rfl
  obtain ⟨_, _, _, _, _, d27⟩ := h27.dfn (ps := ["_law_web_here", "_law_part", "_law_lot_here"]) X G fun _ _ _ _ _ _ us hl => match us, hl with | [_, _, _], _ => rfl
  obtain ⟨_, _, _, _, _, d28⟩ := h28.dfn (ps := ["_law_web_here", "_law_lot_here"]) X G fun _ _ _ _ _ _ us hl => match us, hl with | [_, _], _ => rfl
  obtain ⟨_, _, _, _, _, d29⟩ := h29.dfn (ps := ["_law_many"]) X G fun _ _ _ _ _ _ us hl => match us, hl with | [_], _ => rfl
  obtain ⟨_, _, _, _, _, d30⟩ := h30.dfn (ps := ["_law_row", "_law_many"]) X G fun _ _ _ _ _ _ us hl => match us, hl with | [_, _], _ => rfl
  obtain ⟨kV, doc, pm, an, ct, d31⟩ := h31.dfn (ps := ["_law_script"]) X G fun _ _ _ _ _ _ us hl => match us, hl with | [_], _ => rfl
  have B : Blt mg := ⟨PySem.W.mg_none_of X G z0, PySem.W.mg_none_of X G z1, PySem.W.mg_none_of X G z2, PySem.W.mg_none_of X G z3, PySem.W.mg_none_of X G z4, PySem.W.mg_none_of X G z5, PySem.W.mg_none_of X G z6, PySem.W.mg_none_of X G z7, PySem.W.mg_none_of X G z8, PySem.W.mg_none_of X G z9, PySem.W.mg_none_of X G z10, PySem.W.mg_none_of X G z11, PySem.W.mg_none_of X G z12, PySem.W.mg_none_of X G z13⟩
  have mP : ∃ t, mg "MOST_PERSONS" = some (.int 8 t) := ⟨_, PySem.W.mg_of X G zP⟩
  have mV : ∃ t, mg "MOST_VALUE" = some (.int 1000 t) := ⟨_, PySem.W.mg_of X G zV⟩
  refine ⟨PySem.W.fnOf "law" "law" (defArgs sLaw) (defBody sLaw) (defScope sLaw) .none kV doc pm an c31 ct, [(c, Pt)], SpLaw [(Pt, qLam)] K, fun p hp => ?_, fun p hp => ?_, fun p hp => ?_, fun s u => .of_eq rfl, fun H a ns hl _ hH hS => ⟨a, ns, rfl, fun p hp => ?_, hS, hl, fun _ => rfl⟩, fun base XB GB TBs => ?_⟩
  · rw [List.mem_singleton.mp hp]
    exact hT8
  · rw [List.mem_singleton.mp hp]
    exact nT
  · rw [List.mem_singleton.mp hp]
    exact PySem.W.codeHd_of_K X hC
  · rw [List.mem_singleton.mp hp]
    exact TabS.nil (hH (c, Pt) (List.mem_singleton.mpr rfl))
  · have TB := TBs (c, Pt) (List.mem_singleton.mpr rfl)
    have cIsInt := ok_is_int (P := l.prog) (w := w) (base := base) (T := [(Pt, qLam)]) d0 B
    have cIsFrom := ok_is_from (P := l.prog) (w := w) (base := base) (T := [(Pt, qLam)]) d1 B cIsInt
    have cIsTie := ok_is_tie (P := l.prog) (w := w) (base := base) (T := [(Pt, qLam)]) d2 B cIsFrom
    have cEverybody := ok_everybody (P := l.prog) (w := w) (base := base) (T := [(Pt, qLam)]) d4 B
    have cTiedTo := ok_tied_to (P := l.prog) (w := w) (base := base) (T := [(Pt, qLam)]) d5 B
    have cHanging := ok_hanging (P := l.prog) (w := w) (base := base) (T := [(Pt, qLam)]) d6 B cTiedTo
    have cOthers := ok_others (P := l.prog) (w := w) (base := base) (T := [(Pt, qLam)]) d9 B cEverybody
    have cPartsOf := ok_parts_of (P := l.prog) (w := w) (base := base) (T := [(Pt, qLam)]) d8 B cHanging
    have cNeedLot := ok_need_lot (P := l.prog) (w := w) (base := base) (T := [(Pt, qLam)]) d7 B cIsFrom
    have cNeedWeb := ok_need_web (P := l.prog) (w := w) (base := base) (T := [(Pt, qLam)]) d3 B mP mV cIsFrom cIsTie cEverybody cHanging
    have cBorderOf := ok_border_of (P := l.prog) (w := w) (base := base) (T := [(Pt, qLam)]) d10 B cTiedTo
    have cLeastOf := ok_least_of (P := l.prog) (w := w) (base := base) (T := [(Pt, qLam)]) d11 B
    have cIsDeep := ok_is_deep (P := l.prog) (w := w) (base := base) (T := [(Pt, qLam)]) d13 B cLeastOf cBorderOf
    have cDeepOf := ok_deep_of (P := l.prog) (w := w) (base := base) (T := [(Pt, qLam)]) d14 B cOthers cPartsOf cIsDeep
    have cCostOf := ok_cost_of (P := l.prog) (w := w) (base := base) (T := [(Pt, qLam)]) d15 B cDeepOf
    have cCost := ok_cost (P := l.prog) (w := w) (base := base) (T := [(Pt, qLam)]) d16 B cNeedWeb cNeedLot cCostOf
    have cLowered := ok_lowered (P := l.prog) (w := w) (base := base) (T := [(Pt, qLam)]) d20 B cNeedWeb cNeedLot
    have cLotsOf := ok_lots_of (P := l.prog) (w := w) (base := base) (T := [(Pt, qLam)]) d12 B rfl TB rfl
    have cLeastLoweredOf := ok_least_lowered_of (P := l.prog) (w := w) (base := base) (T := [(Pt, qLam)]) d18 B cDeepOf cLotsOf cBorderOf
    have cFewestLowered := ok_fewest_lowered (P := l.prog) (w := w) (base := base) (T := [(Pt, qLam)]) d17 B cNeedWeb cNeedLot cLeastLoweredOf
    have cLeastLowered := ok_least_lowered (P := l.prog) (w := w) (base := base) (T := [(Pt, qLam)]) d19 B cNeedWeb cNeedLot cLeastLoweredOf
    have cLawTies := ok_law_ties (P := l.prog) (w := w) (base := base) (T := [(Pt, qLam)]) d24 B
    have cLawRest := ok_law_rest (P := l.prog) (w := w) (base := base) (T := [(Pt, qLam)]) d26 B
    have cLawBorder := ok_law_border (P := l.prog) (w := w) (base := base) (T := [(Pt, qLam)]) d27 B cLawTies
    have cLawParts := ok_law_parts (P := l.prog) (w := w) (base := base) (T := [(Pt, qLam)]) d25 B
    have cLawDeep := ok_law_deep (P := l.prog) (w := w) (base := base) (T := [(Pt, qLam)]) d28 B cLawRest cLawParts cLawBorder
    have cLawLots := ok_law_lots (P := l.prog) (w := w) (base := base) (T := [(Pt, qLam)]) d29 B
    have cLawAlike := ok_law_alike (P := l.prog) (w := w) (base := base) (T := [(Pt, qLam)]) d22 B
    have cLawTaken := ok_law_taken (P := l.prog) (w := w) (base := base) d21 B
    have cLawLot := ok_law_lot (P := l.prog) (w := w) (base := base) (T := [(Pt, qLam)]) d30 B cLawTaken
    have cLawWeb := ok_law_web (P := l.prog) (w := w) (base := base) (T := [(Pt, qLam)]) d23 B cLawTaken
    exact ok_law d31 B cLawWeb cLawLot cLawLots cLawAlike cLowered cLawDeep cFewestLowered cLeastLowered cCost
end Dw

open PySem PySem.W PyProof.Rows
set_option maxHeartbeats 0 in
theorem PySem.Challenge.cw_duelwebs_k34_whole_numbers_lowered_holds : PySem.Challenge.rw_duelwebs_k34_whole_numbers_lowered.Holds := by
  w_on; o_law; k_head; (case hw => w_witness2)
  k_fill
  refine LamX.walk_ofTs (l := PySem.Challenge.rw_duelwebs_k34_whole_numbers_lowered) (n := 63) (k := 7) (x := "_law_script") (CX := fun _ => L2.CX0) rfl (by decide) rfl ⟨rfl, by decide, by decide⟩ (fun w h Y => PySem.W.km_in_of Y) ?F (fun _ _ _ _ _ h => h)
  case F =>
    intro w mg fa h Y KX G hmg
    have hT8 := PySem.W.km_tabs_of Y _ (List.mem_singleton.mpr rfl)
    have h0 := Dw.here KX "is_int" Dw.sIsInt _ (by k_is) (by k_is) (by k_is) (by k_is)
    have h1 := Dw.here KX "is_from" Dw.sIsFrom _ (by k_is) (by k_is) (by k_is) (by k_is)
    have h2 := Dw.here KX "is_tie" Dw.sIsTie _ (by k_is) (by k_is) (by k_is) (by k_is)
    have h3 := Dw.here KX "need_web" Dw.sNeedWeb _ (by k_is) (by k_is) (by k_is) (by k_is)
    have h4 := Dw.here KX "everybody" Dw.sEverybody _ (by k_is) (by k_is) (by k_is) (by k_is)
    have h5 := Dw.here KX "tied_to" Dw.sTiedTo _ (by k_is) (by k_is) (by k_is) (by k_is)
    have h6 := Dw.here KX "hanging" Dw.sHanging _ (by k_is) (by k_is) (by k_is) (by k_is)
    have h7 := Dw.here KX "need_lot" Dw.sNeedLot _ (by k_is) (by k_is) (by k_is) (by k_is)
    have h8 := Dw.here KX "parts_of" Dw.sPartsOf _ (by k_is) (by k_is) (by k_is) (by k_is)
    have h9 := Dw.here KX "others" Dw.sOthers _ (by k_is) (by k_is) (by k_is) (by k_is)
    have h10 := Dw.here KX "border_of" Dw.sBorderOf _ (by k_is) (by k_is) (by k_is) (by k_is)
    have h11 := Dw.here KX "least_of" Dw.sLeastOf _ (by k_is) (by k_is) (by k_is) (by k_is)
    have h12 := Dw.here KX "lots_of" Dw.sLotsOf _ (by k_is) (by k_is) (by k_is) (by k_is)
    have h13 := Dw.here KX "is_deep" Dw.sIsDeep _ (by k_is) (by k_is) (by k_is) (by k_is)
    have h14 := Dw.here KX "deep_of" Dw.sDeepOf _ (by k_is) (by k_is) (by k_is) (by k_is)
    have h15 := Dw.here KX "cost_of" Dw.sCostOf _ (by k_is) (by k_is) (by k_is) (by k_is)
    have h16 := Dw.here KX "cost" Dw.sCost _ (by k_is) (by k_is) (by k_is) (by k_is)
    have h17 := Dw.here KX "fewest_lowered" Dw.sFewestLowered _ (by k_is) (by k_is) (by k_is) (by k_is)
    have h18 := Dw.here KX "least_lowered_of" Dw.sLeastLoweredOf _ (by k_is) (by k_is) (by k_is) (by k_is)
    have h19 := Dw.here KX "least_lowered" Dw.sLeastLowered _ (by k_is) (by k_is) (by k_is) (by k_is)
    have h20 := Dw.here KX "lowered" Dw.sLowered _ (by k_is) (by k_is) (by k_is) (by k_is)
    have h21 := Dw.here KX "_law_taken" Dw.sLawTaken _ (by k_is) (by k_is) (by k_is) (by k_is)
    have h22 := Dw.here KX "_law_alike" Dw.sLawAlike _ (by k_is) (by k_is) (by k_is) (by k_is)
    have h23 := Dw.here KX "_law_web" Dw.sLawWeb _ (by k_is) (by k_is) (by k_is) (by k_is)
    have h24 := Dw.here KX "_law_ties" Dw.sLawTies _ (by k_is) (by k_is) (by k_is) (by k_is)
    have h25 := Dw.here KX "_law_parts" Dw.sLawParts _ (by k_is) (by k_is) (by k_is) (by k_is)
    have h26 := Dw.here KX "_law_rest" Dw.sLawRest _ (by k_is) (by k_is) (by k_is) (by k_is)
    have h27 := Dw.here KX "_law_border" Dw.sLawBorder _ (by k_is) (by k_is) (by k_is) (by k_is)
    have h28 := Dw.here KX "_law_deep" Dw.sLawDeep _ (by k_is) (by k_is) (by k_is) (by k_is)
    have h29 := Dw.here KX "_law_lots" Dw.sLawLots _ (by k_is) (by k_is) (by k_is) (by k_is)
    have h30 := Dw.here KX "_law_lot" Dw.sLawLot _ (by k_is) (by k_is) (by k_is) (by k_is)
    have h31 := Dw.here KX "law" Dw.sLaw _ (by k_is) (by k_is) (by k_is) (by k_is)
    exact Dw.all_mk KX G hmg hT8 (by kernel_rfl) (by kernel_rfl) h0 h1 h2 h3 h4 h5 h6 h7 h8 h9 h10 h11 h12 h13 h14 h15 h16 h17 h18 h19 h20 h21 h22 h23 h24 h25 h26 h27 h28 h29 h30 h31 (by k_is) (by k_is) (by k_is) (by k_is) (by k_is) (by k_is) (by k_is) (by k_is) (by k_is) (by k_is) (by k_is) (by k_is) (by k_is) (by k_is) (by k_is) (by k_is)
