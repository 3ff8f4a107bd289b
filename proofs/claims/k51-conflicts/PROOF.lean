import PyProof.Rows.All
import Wide.All
import OpenK.AllK
import Wide.FinOn
import HandS.Base
import HandS.Call
import HandS.List
import HandS.Comp
import HandS.Dict
import HandS.Iter
import HandS.More
import HandS.Words
import HandS.Evl
import HandS.Deep
import HandS.Zip
import HandS.Style
import HandS.Defaults
import HandS.HeadHook1
import HandS.HeadHook2
import HandS.HeadHook3
import HandS.Star
import HandS.Text
import HandS.Conv
import HandS.IsInst
import HandS.MethStar
import HandS.WideBits
import HandS.TupAny
import HandS.TupLen
import PySem.Challenge.RW_fewestmethods_k51_whole_conflicts_by_all
import KE.KStateDown
import Lean
import HandS.Ends
import HandS.Head0
import HandS.Head1
import HandS.Head2
import HandS.HeadEnd
import HandS.Codes
import HandS.Wide
import HandS.Strs
import HandS.DictComp
import KE.SortData
import KE.GoesEnum
import HandS.WordsDict
import HandS.DictTup
import HandS.ClsMeth
import PyProof.StrLawsRepr

/-! ## FMath -/
set_option Elab.async false
set_option linter.all false
/-! The plain law: a finite partial order by lists, points, their highest common points, and what is ambiguous. No program here. -/
namespace FM
section
variable {β : Type} [DecidableEq β]

/-- membership, told by a bool -/
def isIn (x : β) (xs : List β) : Bool := xs.any fun y => decide (y = x)
theorem isIn_iff {x : β} {xs : List β} : isIn x xs = true ↔ x ∈ xs := by
  unfold isIn
  rw [List.any_eq_true]
  exact ⟨fun ⟨y, hy, e⟩ => of_decide_eq_true e ▸ hy, fun h => ⟨x, h, decide_eq_true rfl⟩⟩
theorem isIn_not {x : β} {xs : List β} : isIn x xs = false ↔ x ∉ xs := by
  rw [← isIn_iff]
  cases isIn x xs <;> simp
theorem isIn_cons {x y : β} {xs : List β} : isIn x (y :: xs) = (decide (y = x) || isIn x xs) := rfl
/-! ### maximal members of a list -/
def maxs (r : β → β → Bool) (S : List β) : List β := S.filter fun a => !S.any fun b => !decide (b = a) && r a b
theorem mem_maxs {r : β → β → Bool} {S : List β} {a : β} : a ∈ maxs r S ↔ a ∈ S ∧ ∀ b ∈ S, r a b = true → b = a := by
  unfold maxs
  simp only [List.mem_filter, Bool.not_eq_true', List.any_eq_false, Bool.and_eq_true, Bool.not_eq_true', decide_eq_false_iff_not, not_and]
  constructor
  · rintro ⟨h, k⟩
    refine ⟨h, fun b hb hr => ?_⟩
    by_cases e : b = a
    · exact e
    · exact absurd hr (k b hb e)
  · rintro ⟨h, k⟩
    exact ⟨h, fun b hb e hr => e (k b hb hr)⟩
theorem filter_lt {l : List β} {p q : β → Bool} (h : ∀ a ∈ l, p a = true → q a = true) {c : β} (hc : c ∈ l) (hq : q c = true) (hp : p c = false) : (l.filter p).length < (l.filter q).length := by
  induction l with
  | nil => cases hc
  | cons x l ih =>
    have h' : ∀ a ∈ l, p a = true → q a = true := fun a ha => h a (List.mem_cons_of_mem _ ha)
    have le : (l.filter p).length ≤ (l.filter q).length := by
      clear ih hc h
      induction l with
      | nil => simp
      | cons y l ih2 =>
        have k := ih2 fun a ha => h' a (List.mem_cons_of_mem _ ha)
        have k2 := h' y (List.mem_cons_self ..)
        cases e : p y <;> cases e2 : q y <;> simp_all <;> omega
    rcases List.mem_cons.mp hc with rfl | hc
    · simp only [List.filter_cons, hp, hq, if_true]
      simp only [Bool.false_eq_true, if_false, List.length_cons]
      omega
    · have k := ih h' hc
      have k2 := h x (List.mem_cons_self ..)
      cases e : p x <;> cases e2 : q x <;> simp_all <;> omega
/-- r is a strict-enough order on S -/
structure Ord (r : β → β → Bool) (S : List β) : Prop where
  trans : ∀ a ∈ S, ∀ b ∈ S, ∀ c ∈ S, r a b = true → r b c = true → r a c = true
  anti : ∀ a ∈ S, ∀ b ∈ S, r a b = true → r b a = true → a = b
theorem Ord.sub {r : β → β → Bool} {S T : List β} (o : Ord r S) (h : ∀ a ∈ T, a ∈ S) : Ord r T :=
  ⟨fun a ha b hb c hc => o.trans a (h a ha) b (h b hb) c (h c hc), fun a ha b hb => o.anti a (h a ha) b (h b hb)⟩
theorem Ord.flip {r : β → β → Bool} {S : List β} (o : Ord r S) : Ord (fun a b => r b a) S :=
  ⟨fun a ha b hb c hc h1 h2 => o.trans c hc b hb a ha h2 h1, fun a ha b hb h1 h2 => o.anti a ha b hb h2 h1⟩
theorem exists_max {r : β → β → Bool} {S : List β} (o : Ord r S) : ∀ (n : Nat) (a : β), a ∈ S → (S.filter fun b => !decide (b = a) && r a b).length ≤ n → ∃ m ∈ maxs r S, a = m ∨ r a m = true
  | n, a, ha, hn => by
    by_cases hm : a ∈ maxs r S
    · exact ⟨a, hm, .inl rfl⟩
    · have h1 : ∃ b ∈ S, r a b = true ∧ b ≠ a := by
        refine Classical.byContradiction fun hc => hm (mem_maxs.mpr ⟨ha, fun b hb hr => ?_⟩)
        exact Classical.byContradiction fun e => hc ⟨b, hb, hr, e⟩
      obtain ⟨b, hb, hr, hne⟩ := h1
      have lt : (S.filter fun x => !decide (x = b) && r b x).length < (S.filter fun x => !decide (x = a) && r a x).length := by
        refine filter_lt (fun x hx h => ?_) (c := b) hb (by simp [hne, hr]) (by simp)
        simp only [Bool.and_eq_true, Bool.not_eq_true', decide_eq_false_iff_not] at h ⊢
        refine ⟨fun e => ?_, o.trans a ha b hb x hx hr h.2⟩
        subst e
        exact hne (o.anti b hb x hx h.2 hr)
      match n with
      | 0 => omega
      | n + 1 =>
        obtain ⟨m, hm, q⟩ := exists_max o n b hb (by omega)
        refine ⟨m, hm, .inr ?_⟩
        rcases q with rfl | q
        · exact hr
        · exact o.trans a ha b hb m (mem_maxs.mp hm).1 hr q
theorem has_max {r : β → β → Bool} {S : List β} (o : Ord r S) {a : β} (ha : a ∈ S) : ∃ m ∈ maxs r S, a = m ∨ r a m = true := exists_max o _ a ha (Nat.le_refl _)

/-- one after another, each kept unless a kept one is above it -/
def foldMax (r : β → β → Bool) (acc : List β) (S : List β) : List β := S.foldl (fun f p => if f.any (fun o => r p o) = true then f else f ++ [p]) acc
theorem maxs_snoc {r : β → β → Bool} {S : List β} {p : β} (o : Ord r (S ++ [p])) (h : ∀ a ∈ S, a ≠ p ∧ r a p = false) : maxs r (S ++ [p]) = if (maxs r S).any (fun o => r p o) = true then maxs r S else maxs r S ++ [p] := by
  have oS : Ord r S := o.sub fun a ha => List.mem_append_left _ ha
  have e1 : (S.filter fun a => !(S ++ [p]).any fun b => !decide (b = a) && r a b) = maxs r S := by
    unfold maxs
    refine List.filter_congr fun a ha => ?_
    rw [List.any_append]
    simp [(h a ha).2]
  have e2 : (S.any fun o => r p o) = (maxs r S).any fun o => r p o := by
    rw [Bool.eq_iff_iff, List.any_eq_true, List.any_eq_true]
    constructor
    · rintro ⟨b, hb, hr⟩
      obtain ⟨m, hm, q⟩ := has_max oS hb
      refine ⟨m, hm, ?_⟩
      rcases q with rfl | q
      · exact hr
      · exact o.trans p (by simp) b (List.mem_append_left _ hb) m (List.mem_append_left _ (mem_maxs.mp hm).1) hr q
    · rintro ⟨b, hb, hr⟩
      exact ⟨b, (mem_maxs.mp hb).1, hr⟩
  have e3 : ((S ++ [p]).any fun b => !decide (b = p) && r p b) = S.any fun o => r p o := by
    rw [List.any_append, List.any_cons, List.any_nil]
    simp only [decide_true, Bool.not_true, Bool.false_and, Bool.or_false]
    rw [Bool.eq_iff_iff, List.any_eq_true, List.any_eq_true]
    constructor
    · rintro ⟨b, hb, hr⟩
      exact ⟨b, hb, (Bool.and_eq_true_iff.mp hr).2⟩
    · rintro ⟨b, hb, hr⟩
      exact ⟨b, hb, by simp [hr, (h b hb).1]⟩
  show (S ++ [p]).filter _ = _
  rw [List.filter_append, e1, List.filter_cons, e3, e2, List.filter_nil]
  cases (maxs r S).any (fun o => r p o) <;> simp
theorem foldMax_eq {r : β → β → Bool} : ∀ (S D : List β), Ord r (D ++ S) → (D ++ S).Pairwise (fun a b => a ≠ b ∧ r a b = false) → foldMax r (maxs r D) S = maxs r (D ++ S)
  | [], D, _, _ => by simp [foldMax]
  | p :: S, D, o, h => by
    have e : D ++ p :: S = (D ++ [p]) ++ S := by simp
    rw [e] at o h ⊢
    rw [← foldMax_eq S (D ++ [p]) o h]
    have h2 := (List.pairwise_append.mp (List.pairwise_append.mp h).1).2.2
    rw [maxs_snoc (o.sub fun a ha => List.mem_append_left _ ha) fun a ha => h2 a ha p (by simp)]
    rfl
theorem foldMax_all {r : β → β → Bool} {S : List β} (o : Ord r S) (h : S.Pairwise (fun a b => a ≠ b ∧ r a b = false)) : foldMax r [] S = maxs r S := by
  have := foldMax_eq (r := r) S [] o h
  simpa [maxs] using this
theorem maxs_reverse {r : β → β → Bool} {S : List β} : (maxs r S.reverse).reverse = maxs r S := by
  unfold maxs
  rw [List.filter_reverse, List.reverse_reverse]
  refine List.filter_congr fun a _ => ?_
  rw [List.any_reverse]
theorem maxs_filter {r : β → β → Bool} {l : List β} {f g : β → Bool} (o : Ord r l) (fg : ∀ a ∈ l, f a = true → g a = true) (up : ∀ a ∈ l, g a = true → ∃ b ∈ l, f b = true ∧ (a = b ∨ r a b = true)) : maxs r (l.filter f) = maxs r (l.filter g) := by
  unfold maxs
  rw [List.filter_filter, List.filter_filter]
  refine List.filter_congr fun a ha => ?_
  rw [Bool.eq_iff_iff]
  simp only [Bool.and_eq_true, Bool.not_eq_true', List.any_eq_false, List.mem_filter, decide_eq_false_iff_not, not_and, and_imp]
  constructor
  · rintro ⟨h, fa⟩
    refine ⟨fun b hb gb e hr => ?_, fg a ha fa⟩
    obtain ⟨c, hc, fc, q⟩ := up b hb gb
    have rac : r a c = true := by
      rcases q with rfl | q
      · exact hr
      · exact o.trans a ha b hb c hc hr q
    refine h c hc fc (fun e2 => ?_) rac
    subst e2
    rcases q with rfl | q
    · exact e rfl
    · exact e (o.anti b hb c hc q hr)
  · rintro ⟨h, ga⟩
    obtain ⟨c, hc, fc, q⟩ := up a ha ga
    have e : a = c := by
      rcases q with e | q
      · exact e
      · exact Classical.byContradiction fun e => h c hc (fg c hc fc) (fun z => e z.symm) q
    subst e
    exact ⟨fun b hb fb => h b hb (fg b hb fb), fc⟩
end
end FM

/-! ## FPts -/
set_option Elab.async false
set_option linter.all false
/-! Points: lists of names of one length, their order, all points, highest common points. -/
namespace FM
section
variable {α : Type} [DecidableEq α]
def pLe (le : α → α → Bool) (p q : List α) : Bool := (p.zip q).all fun z => le z.1 z.2
theorem pLe_nil (le : α → α → Bool) (q : List α) : pLe le [] q = true := rfl
theorem pLe_cons (le : α → α → Bool) (x y : α) (p q : List α) : pLe le (x :: p) (y :: q) = (le x y && pLe le p q) := rfl
/-- the names in their order, and who is at or below whom -/
structure Grid (names : List α) (le : α → α → Bool) : Prop where
  nodup : names.Nodup
  refl : ∀ x ∈ names, le x x = true
  trans : ∀ x ∈ names, ∀ y ∈ names, ∀ z ∈ names, le x y = true → le y z = true → le x z = true
  down : ∀ x ∈ names, ∀ y ∈ names, le x y = true → x ≠ y → names.idxOf y < names.idxOf x
def Pt (names : List α) (m : Nat) (p : List α) : Prop := p.length = m ∧ ∀ x ∈ p, x ∈ names
def combos (names : List α) : Nat → List (List α)
  | 0 => [[]]
  | n + 1 => (combos names n).flatMap fun p => names.map fun x => p ++ [x]
def ix (names : List α) (p : List α) : List Int := p.map fun x => (names.idxOf x : Int)
def lows (le : α → α → Bool) (ps : List (List α)) : List (List α) := maxs (fun a b => pLe le b a) ps
def highs (le : α → α → Bool) (ps : List (List α)) : List (List α) := maxs (pLe le) ps
variable {names : List α} {le : α → α → Bool}
theorem Grid.anti (g : Grid names le) {x y : α} (hx : x ∈ names) (hy : y ∈ names) (h1 : le x y = true) (h2 : le y x = true) : x = y := by
  refine Classical.byContradiction fun e => ?_
  have a := g.down x hx y hy h1 e
  have b := g.down y hy x hx h2 fun z => e z.symm
  omega
theorem Grid.ord (g : Grid names le) : Ord le names := ⟨fun a ha b hb c hc => g.trans a ha b hb c hc, fun a ha b hb => g.anti ha hb⟩
theorem Pt.cons {m : Nat} {x : α} {p : List α} (h : Pt names (m + 1) (x :: p)) : x ∈ names ∧ Pt names m p := ⟨h.2 x (by simp), by have := h.1; simp at this; exact this, fun y hy => h.2 y (by simp [hy])⟩
theorem Pt.shape {m : Nat} {p : List α} (h : Pt names (m + 1) p) : ∃ x q, p = x :: q ∧ x ∈ names ∧ Pt names m q := by
  cases p with
  | nil => have := h.1; simp at this
  | cons x q => exact ⟨x, q, rfl, h.cons⟩
theorem Pt.zero {p : List α} (h : Pt names 0 p) : p = [] := List.eq_nil_of_length_eq_zero h.1
theorem Pt.mk_cons {m : Nat} {x : α} {p : List α} (hx : x ∈ names) (h : Pt names m p) : Pt names (m + 1) (x :: p) := ⟨by simp [h.1], fun y hy => by
  rcases List.mem_cons.mp hy with rfl | hy
  · exact hx
  · exact h.2 y hy⟩
theorem pLe_refl (g : Grid names le) : ∀ {m : Nat} {p : List α}, Pt names m p → pLe le p p = true
  | 0, p, h => by rw [h.zero]; rfl
  | m + 1, p, h => by
    obtain ⟨x, q, rfl, hx, hq⟩ := h.shape
    rw [pLe_cons, g.refl x hx, pLe_refl g hq]
    rfl
theorem pLe_trans (g : Grid names le) : ∀ {m : Nat} {p q r : List α}, Pt names m p → Pt names m q → Pt names m r → pLe le p q = true → pLe le q r = true → pLe le p r = true
  | 0, p, q, r, hp, hq, hr, _, _ => by rw [hp.zero]; rfl
  | m + 1, p, q, r, hp, hq, hr, h1, h2 => by
    obtain ⟨x, p, rfl, hx, hp⟩ := hp.shape
    obtain ⟨y, q, rfl, hy, hq⟩ := hq.shape
    obtain ⟨z, r, rfl, hz, hr⟩ := hr.shape
    rw [pLe_cons, Bool.and_eq_true] at *
    exact ⟨g.trans x hx y hy z hz h1.1 h2.1, pLe_trans g hp hq hr h1.2 h2.2⟩
theorem pLe_anti (g : Grid names le) : ∀ {m : Nat} {p q : List α}, Pt names m p → Pt names m q → pLe le p q = true → pLe le q p = true → p = q
  | 0, p, q, hp, hq, _, _ => by rw [hp.zero, hq.zero]
  | m + 1, p, q, hp, hq, h1, h2 => by
    obtain ⟨x, p, rfl, hx, hp⟩ := hp.shape
    obtain ⟨y, q, rfl, hy, hq⟩ := hq.shape
    rw [pLe_cons, Bool.and_eq_true] at h1 h2
    rw [g.anti hx hy h1.1 h2.1, pLe_anti g hp hq h1.2 h2.2]
theorem ordPt (g : Grid names le) {m : Nat} {S : List (List α)} (h : ∀ p ∈ S, Pt names m p) : Ord (pLe le) S :=
  ⟨fun a ha b hb c hc => pLe_trans g (h a ha) (h b hb) (h c hc), fun a ha b hb => pLe_anti g (h a ha) (h b hb)⟩
/-- what is above comes first -/
theorem pLe_ix (g : Grid names le) : ∀ {m : Nat} {p q : List α}, Pt names m p → Pt names m q → pLe le p q = true → p ≠ q → ix names q < ix names p
  | 0, p, q, hp, hq, _, e => absurd (hp.zero.trans hq.zero.symm) e
  | m + 1, p, q, hp, hq, h, e => by
    obtain ⟨x, p', rfl, hx, hp'⟩ := hp.shape
    obtain ⟨y, q', rfl, hy, hq'⟩ := hq.shape
    rw [pLe_cons, Bool.and_eq_true] at h
    show (names.idxOf y : Int) :: ix names q' < (names.idxOf x : Int) :: ix names p'
    rw [List.cons_lt_cons_iff]
    by_cases exy : x = y
    · exact .inr ⟨by rw [exy], pLe_ix g hp' hq' h.2 fun z => e (by rw [z, exy])⟩
    · have := g.down x hx y hy h.1 exy
      exact .inl (by omega)
theorem int_lt_irrefl : ∀ (a : List Int), ¬ a < a
  | [], h => by simp at h
  | x :: a, h => by
    rw [List.cons_lt_cons_iff] at h
    rcases h with h | ⟨_, h⟩
    · omega
    · exact int_lt_irrefl a h
theorem int_lt_trans : ∀ {a b c : List Int}, a < b → b < c → a < c
  | a, b, [], _, h => by simp at h
  | a, [], c, h, _ => by simp at h
  | [], y :: b, z :: c, _, _ => by simp
  | x :: a, y :: b, z :: c, h1, h2 => by
    rw [List.cons_lt_cons_iff] at *
    rcases h1 with h1 | ⟨e1, h1⟩ <;> rcases h2 with h2 | ⟨e2, h2⟩
    · exact .inl (by omega)
    · exact .inl (by omega)
    · exact .inl (by omega)
    · exact .inr ⟨by omega, int_lt_trans h1 h2⟩
theorem idxOf_inj : ∀ {l : List α} {x y : α}, x ∈ l → y ∈ l → l.idxOf x = l.idxOf y → x = y
  | [], _, _, h, _, _ => by cases h
  | z :: l, x, y, hx, hy, e => by
    rw [List.idxOf_cons, List.idxOf_cons] at e
    by_cases h1 : z = x <;> by_cases h2 : z = y
    · exact h1.symm.trans h2
    · simp [h1] at e
      grind
    · simp [h2] at e
      grind
    · have e2 : l.idxOf x = l.idxOf y := by grind
      rcases List.mem_cons.mp hx with q | hx
      · exact absurd q.symm h1
      · rcases List.mem_cons.mp hy with q | hy
        · exact absurd q.symm h2
        · exact idxOf_inj hx hy e2
theorem ix_inj : ∀ {m : Nat} {p q : List α}, Pt names m p → Pt names m q → ix names p = ix names q → p = q
  | 0, p, q, hp, hq, _ => by rw [hp.zero, hq.zero]
  | m + 1, p, q, hp, hq, e => by
    obtain ⟨x, p, rfl, hx, hp⟩ := hp.shape
    obtain ⟨y, q, rfl, hy, hq⟩ := hq.shape
    have e2 : (names.idxOf x : Int) :: ix names p = (names.idxOf y : Int) :: ix names q := e
    injection e2 with e3 e4
    have e5 : names.idxOf x = names.idxOf y := by omega
    rw [idxOf_inj hx hy e5, ix_inj hp hq e4]
/-! ### all points -/
theorem mem_combos : ∀ {m : Nat} {p : List α}, p ∈ combos names m ↔ Pt names m p
  | 0, p => by
    constructor
    · intro h
      have : p = [] := by simpa [combos] using h
      subst this
      exact ⟨rfl, fun x hx => by cases hx⟩
    · intro h; rw [h.zero]; simp [combos]
  | m + 1, p => by
    unfold combos
    rw [List.mem_flatMap]
    constructor
    · rintro ⟨q, hq, h⟩
      obtain ⟨x, hx, rfl⟩ := List.mem_map.mp h
      have k := mem_combos.mp hq
      refine ⟨by simp [k.1], fun y hy => ?_⟩
      rcases List.mem_append.mp hy with hy | hy
      · exact k.2 y hy
      · rw [List.mem_singleton.mp hy]; exact hx
    · intro h
      have hne : p ≠ [] := fun e => by rw [e] at h; have := h.1; simp at this
      refine ⟨p.dropLast, mem_combos.mpr ⟨by simp [h.1], fun x hx => h.2 x (List.dropLast_subset _ hx)⟩, List.mem_map.mpr ⟨p.getLast hne, h.2 _ (List.getLast_mem hne), List.dropLast_concat_getLast hne⟩⟩
def Sorted (names : List α) (ps : List (List α)) : Prop := ps.Pairwise fun p q => ix names p < ix names q
theorem lt_append_left : ∀ {a b c d : List Int}, a.length = b.length → a < b → a ++ c < b ++ d
  | [], [], _, _, _, h => by simp at h
  | [], _ :: _, _, _, h, _ => by simp at h
  | _ :: _, [], _, _, h, _ => by simp at h
  | x :: a, y :: b, c, d, hl, h => by
    simp only [List.cons_append]
    rw [List.cons_lt_cons_iff] at *
    rcases h with h | ⟨e, h⟩
    · exact .inl h
    · exact .inr ⟨e, lt_append_left (by simpa using hl) h⟩
theorem lt_append_right : ∀ {a c d : List Int}, c < d → a ++ c < a ++ d
  | [], _, _, h => h
  | x :: a, c, d, h => by
    simp only [List.cons_append]
    rw [List.cons_lt_cons_iff]
    exact .inr ⟨rfl, lt_append_right h⟩
theorem ix_snoc (p : List α) (x : α) : ix names (p ++ [x]) = ix names p ++ [(names.idxOf x : Int)] := by simp [ix]
theorem names_sorted (h : names.Nodup) : names.Pairwise fun x y => names.idxOf x < names.idxOf y := by
  rw [List.pairwise_iff_getElem]
  intro i j hi hj hij
  rw [h.idxOf_getElem i hi, h.idxOf_getElem j hj]
  exact hij
theorem combos_sorted (h : names.Nodup) : ∀ m : Nat, Sorted names (combos names m)
  | 0 => by simp [Sorted, combos]
  | m + 1 => by
    unfold Sorted combos
    rw [List.pairwise_flatMap]
    refine ⟨fun p hp => ?_, ?_⟩
    · rw [List.pairwise_map]
      refine (names_sorted h).imp fun {x y} hxy => ?_
      rw [ix_snoc, ix_snoc]
      refine lt_append_right ?_
      rw [List.cons_lt_cons_iff]
      exact .inl (by omega)
    · have ih := combos_sorted h m
      have ih2 : (combos names m).Pairwise fun p q => (p.length = m ∧ q.length = m) ∧ ix names p < ix names q := by
        refine List.Pairwise.imp_of_mem (fun {p q} hp hq k => ⟨⟨(mem_combos.mp hp).1, (mem_combos.mp hq).1⟩, k⟩) ih
      refine ih2.imp fun {p q} k => ?_
      intro a ha b hb
      obtain ⟨x, hx, rfl⟩ := List.mem_map.mp ha
      obtain ⟨y, hy, rfl⟩ := List.mem_map.mp hb
      rw [ix_snoc, ix_snoc]
      exact lt_append_left (by simp [ix, k.1.1, k.1.2]) k.2
theorem Sorted.nodup {ps : List (List α)} (h : Sorted names ps) : ps.Nodup := h.imp fun {p q} k e => by
  subst e
  exact int_lt_irrefl _ k
theorem Sorted.filter {ps : List (List α)} (h : Sorted names ps) (f : List α → Bool) : Sorted names (ps.filter f) := List.Pairwise.sublist List.filter_sublist h
/-- two rising lists with the same members are one -/
theorem rising_eq : ∀ {a b : List (List Int)}, a.Pairwise (· < ·) → b.Pairwise (· < ·) → (∀ x, x ∈ a ↔ x ∈ b) → a = b
  | [], [], _, _, _ => rfl
  | [], y :: b, _, _, h => by have := (h y).mpr (by simp); cases this
  | x :: a, [], _, _, h => by have := (h x).mp (by simp); cases this
  | x :: a, y :: b, ha, hb, h => by
    rw [List.pairwise_cons] at ha hb
    have exy : x = y := by
      have h1 : x ∈ y :: b := (h x).mp (by simp)
      have h2 : y ∈ x :: a := (h y).mpr (by simp)
      rcases List.mem_cons.mp h1 with e | h1
      · exact e
      · rcases List.mem_cons.mp h2 with e | h2
        · exact e.symm
        · exact absurd (int_lt_trans (ha.1 y h2) (hb.1 x h1)) (int_lt_irrefl _)
    subst exy
    congr 1
    refine rising_eq ha.2 hb.2 fun z => ?_
    constructor
    · intro hz
      rcases List.mem_cons.mp ((h z).mp (by simp [hz])) with e | q
      · subst e; exact absurd (ha.1 z hz) (int_lt_irrefl _)
      · exact q
    · intro hz
      rcases List.mem_cons.mp ((h z).mpr (by simp [hz])) with e | q
      · subst e; exact absurd (hb.1 z hz) (int_lt_irrefl _)
      · exact q
/-- sorted lists of points with the same members -/
theorem sorted_eq {a b : List (List α)} {m : Nat} (pa : ∀ p ∈ a, Pt names m p) (pb : ∀ p ∈ b, Pt names m p) (ha : Sorted names a) (hb : Sorted names b) (h : ∀ p, p ∈ a ↔ p ∈ b) : a = b := by
  have e : a.map (ix names) = b.map (ix names) := by
    refine rising_eq (List.pairwise_map.mpr ha) (List.pairwise_map.mpr hb) fun z => ?_
    simp only [List.mem_map]
    exact ⟨fun ⟨p, hp, e⟩ => ⟨p, (h p).mp hp, e⟩, fun ⟨p, hp, e⟩ => ⟨p, (h p).mpr hp, e⟩⟩
  clear ha hb h
  induction a generalizing b with
  | nil => cases b with
    | nil => rfl
    | cons y b => simp at e
  | cons x a ih => cases b with
    | nil => simp at e
    | cons y b =>
      simp only [List.map_cons] at e
      injection e with e1 e2
      rw [ix_inj (pa x (by simp)) (pb y (by simp)) e1, ih (fun p hp => pa p (by simp [hp])) (fun p hp => pb p (by simp [hp])) e2]
theorem sorted_filter {a : List (List α)} {m : Nat} (g : names.Nodup) (pa : ∀ p ∈ a, Pt names m p) (ha : Sorted names a) : (combos names m).filter (fun p => isIn p a) = a :=
  sorted_eq (m := m) (names := names) (fun p hp => mem_combos.mp (List.mem_filter.mp hp).1) pa ((combos_sorted g m).filter _) ha fun p => by
    rw [List.mem_filter, isIn_iff, mem_combos]
    exact ⟨fun h => h.2, fun h => ⟨pa p h, h⟩⟩
theorem Sorted.above (g : Grid names le) {m : Nat} {ps : List (List α)} (hp : ∀ p ∈ ps, Pt names m p) (h : Sorted names ps) : ps.Pairwise (fun a b => a ≠ b ∧ pLe le a b = false) := by
  refine List.Pairwise.imp_of_mem (fun {a b} ha hb k => ?_) h
  have ne : a ≠ b := fun e => by subst e; exact int_lt_irrefl _ k
  refine ⟨ne, ?_⟩
  cases e : pLe le a b with
  | false => rfl
  | true => exact absurd (int_lt_trans (pLe_ix g (hp a ha) (hp b hb) e ne) k) (int_lt_irrefl _)
/-- the program's walks -/
theorem foldHigh (g : Grid names le) {m : Nat} {ps : List (List α)} (hp : ∀ p ∈ ps, Pt names m p) (h : Sorted names ps) : foldMax (pLe le) [] ps = highs le ps := foldMax_all (ordPt g hp) (h.above g hp)
theorem foldLow (g : Grid names le) {m : Nat} {ps : List (List α)} (hp : ∀ p ∈ ps, Pt names m p) (h : Sorted names ps) : (foldMax (fun a b => pLe le b a) [] ps.reverse).reverse = lows le ps := by
  have o : Ord (fun a b => pLe le b a) ps.reverse := (ordPt g hp).flip.sub fun a ha => List.mem_reverse.mp ha
  rw [foldMax_all o ?_]
  · exact maxs_reverse
  · rw [List.pairwise_reverse]
    exact (h.above g hp).imp fun {a b} k => ⟨fun e => k.1 e.symm, k.2⟩
end
end FM

/-! ## FMeet -/
set_option Elab.async false
set_option linter.all false
/-! Highest common points, rivals, what is ambiguous, and where the highest ambiguous points are found. -/
namespace FM
section
variable {α : Type} [DecidableEq α]
/-! ### one name from each of some lists -/
def combined (cs : List (List α)) : List (List α) := cs.foldl (fun found ns => found.flatMap fun p => ns.map fun x => p ++ [x]) [[]]
inductive Each : List α → List (List α) → Prop
  | nil : Each [] []
  | cons {x : α} {p : List α} {c : List α} {cs : List (List α)} : x ∈ c → Each p cs → Each (x :: p) (c :: cs)
theorem mem_comb : ∀ {cs : List (List α)} {acc : List (List α)} {r : List α}, r ∈ cs.foldl (fun found ns => found.flatMap fun p => ns.map fun x => p ++ [x]) acc ↔ ∃ a ∈ acc, ∃ p, Each p cs ∧ r = a ++ p
  | [], acc, r => by
    constructor
    · intro h
      exact ⟨r, h, [], .nil, by simp⟩
    · rintro ⟨a, ha, p, hp, rfl⟩
      cases hp
      simpa using ha
  | c :: cs, acc, r => by
    rw [List.foldl_cons, mem_comb]
    constructor
    · rintro ⟨a, ha, p, hp, rfl⟩
      obtain ⟨b, hb, h2⟩ := List.mem_flatMap.mp ha
      obtain ⟨x, hx, rfl⟩ := List.mem_map.mp h2
      exact ⟨b, hb, x :: p, .cons hx hp, by simp⟩
    · rintro ⟨a, ha, p, hp, rfl⟩
      cases hp with
      | @cons x p _ _ hx hp => exact ⟨a ++ [x], List.mem_flatMap.mpr ⟨a, ha, List.mem_map.mpr ⟨x, hx, rfl⟩⟩, p, hp, by simp⟩
theorem mem_combined {cs : List (List α)} {r : List α} : r ∈ combined cs ↔ Each r cs := by
  unfold combined
  rw [mem_comb]
  constructor
  · rintro ⟨a, ha, p, hp, rfl⟩
    rw [List.mem_singleton.mp ha]
    exact hp
  · intro h
    exact ⟨[], by simp, r, h, rfl⟩
/-! ### highest common names -/
def hc (names : List α) (le : α → α → Bool) (a b : α) : List α :=
  let common := (names.filter fun x => le x a).filter fun x => le x b
  common.filter fun x => decide ((names.filter fun y => le x y).filter (fun y => isIn y common) = [x])
def hcp (names : List α) (le : α → α → Bool) (p q : List α) : List (List α) := combined (List.zipWith (hc names le) p q)
variable {names : List α} {le : α → α → Bool}
theorem filter_single {l : List α} (h : l.Nodup) {f : α → Bool} {x : α} (hx : x ∈ l) (fx : f x = true) : l.filter f = [x] ↔ ∀ y ∈ l, f y = true → y = x := by
  constructor
  · intro e y hy fy
    have : y ∈ l.filter f := List.mem_filter.mpr ⟨hy, fy⟩
    rw [e] at this
    exact List.mem_singleton.mp this
  · intro k
    induction l with
    | nil => cases hx
    | cons z l ih =>
      rw [List.nodup_cons] at h
      rcases List.mem_cons.mp hx with rfl | hx
      · rw [List.filter_cons, fx, if_pos rfl]
        congr 1
        rw [List.filter_eq_nil_iff]
        intro y hy fy
        have := k y (by simp [hy]) fy
        subst this
        exact h.1 hy
      · rw [List.filter_cons]
        have : f z = false := by
          cases q : f z with
          | false => rfl
          | true =>
            have := k z (by simp) q
            subst this
            exact absurd hx h.1
        rw [this]
        simp only [Bool.false_eq_true, if_false]
        exact ih h.2 hx fun y hy fy => k y (by simp [hy]) fy
theorem mem_hc (g : Grid names le) {a b x : α} : x ∈ hc names le a b ↔ x ∈ names ∧ le x a = true ∧ le x b = true ∧ ∀ y ∈ names, le x y = true → le y a = true → le y b = true → y = x := by
  unfold hc
  simp only
  rw [List.mem_filter, List.mem_filter, List.mem_filter, decide_eq_true_iff]
  constructor
  · rintro ⟨⟨⟨hx, ha⟩, hb⟩, e⟩
    refine ⟨hx, ha, hb, fun y hy h1 h2 h3 => ?_⟩
    have : y ∈ (names.filter fun y => le x y).filter (fun y => isIn y ((names.filter fun x => le x a).filter fun x => le x b)) := by
      simp only [List.mem_filter, isIn_iff]
      exact ⟨⟨hy, h1⟩, ⟨hy, h2⟩, h3⟩
    rw [e] at this
    exact List.mem_singleton.mp this
  · rintro ⟨hx, ha, hb, k⟩
    refine ⟨⟨⟨hx, ha⟩, hb⟩, ?_⟩
    rw [filter_single (g.nodup.filter _) (List.mem_filter.mpr ⟨hx, g.refl x hx⟩) (by simp only [List.mem_filter, isIn_iff]; exact ⟨⟨hx, ha⟩, hb⟩)]
    intro y hy fy
    simp only [List.mem_filter, isIn_iff] at fy hy
    exact k y hy.1 hy.2 fy.1.2 fy.2
theorem has_hc (g : Grid names le) {a b z : α} (hz : z ∈ names) (h1 : le z a = true) (h2 : le z b = true) : ∃ x ∈ hc names le a b, le z x = true := by
  have o : Ord le ((names.filter fun x => le x a).filter fun x => le x b) := g.ord.sub fun x hx => by simp only [List.mem_filter] at hx; exact hx.1.1
  obtain ⟨m, hm, q⟩ := has_max o (a := z) (by simp [hz, h1, h2])
  obtain ⟨hm1, hm2⟩ := mem_maxs.mp hm
  simp only [List.mem_filter, and_imp] at hm1 hm2
  refine ⟨m, (mem_hc g).mpr ⟨hm1.1.1, hm1.1.2, hm1.2, fun y hy k1 k2 k3 => hm2 y hy k2 k3 k1⟩, ?_⟩
  rcases q with rfl | q
  · exact g.refl _ hz
  · exact q
theorem mem_hcp (g : Grid names le) : ∀ {m : Nat} {p q r : List α}, Pt names m p → Pt names m q →
    (r ∈ hcp names le p q ↔ Pt names m r ∧ pLe le r p = true ∧ pLe le r q = true ∧ ∀ s, Pt names m s → pLe le r s = true → pLe le s p = true → pLe le s q = true → s = r)
  | 0, p, q, r, hp, hq => by
    rw [hp.zero, hq.zero]
    show r ∈ combined [] ↔ _
    rw [mem_combined]
    constructor
    · intro h
      cases h
      exact ⟨⟨rfl, fun x hx => by cases hx⟩, rfl, rfl, fun s hs _ _ _ => hs.zero⟩
    · rintro ⟨h, _⟩
      rw [h.zero]
      exact .nil
  | m + 1, p, q, r, hp, hq => by
    obtain ⟨x, p', rfl, hx, hp'⟩ := hp.shape
    obtain ⟨y, q', rfl, hy, hq'⟩ := hq.shape
    show r ∈ combined (hc names le x y :: List.zipWith (hc names le) p' q') ↔ _
    rw [mem_combined]
    have ih := fun r => mem_hcp g (r := r) hp' hq'
    unfold hcp at ih
    constructor
    · intro h
      cases h with
      | @cons z r' _ _ hz hr =>
        obtain ⟨i1, i2, i3, i4⟩ := (ih r').mp (mem_combined.mpr hr)
        obtain ⟨z1, z2, z3, z4⟩ := (mem_hc g).mp hz
        refine ⟨Pt.mk_cons z1 i1, by rw [pLe_cons, z2, i2]; rfl, by rw [pLe_cons, z3, i3]; rfl, fun s hs h1 h2 h3 => ?_⟩
        obtain ⟨w, s', rfl, hw, hs'⟩ := hs.shape
        rw [pLe_cons, Bool.and_eq_true] at h1 h2 h3
        rw [z4 w hw h1.1 h2.1 h3.1, i4 s' hs' h1.2 h2.2 h3.2]
    · rintro ⟨hr, h1, h2, h3⟩
      obtain ⟨z, r', rfl, hz, hr'⟩ := hr.shape
      rw [pLe_cons, Bool.and_eq_true] at h1 h2
      refine .cons ((mem_hc g).mpr ⟨hz, h1.1, h2.1, fun w hw k1 k2 k3 => ?_⟩) (mem_combined.mp ((ih r').mpr ⟨hr', h1.2, h2.2, fun s hs k1 k2 k3 => ?_⟩))
      · have := h3 (w :: r') (Pt.mk_cons hw hr') (by rw [pLe_cons, k1, pLe_refl g hr']; rfl) (by rw [pLe_cons, k2, h1.2]; rfl) (by rw [pLe_cons, k3, h2.2]; rfl)
        injection this
      · have := h3 (z :: s) (Pt.mk_cons hz hs) (by rw [pLe_cons, g.refl z hz, k1]; rfl) (by rw [pLe_cons, h1.1, k2]; rfl) (by rw [pLe_cons, h2.1, k3]; rfl)
        injection this
theorem has_hcp (g : Grid names le) : ∀ {m : Nat} {p q z : List α}, Pt names m p → Pt names m q → Pt names m z → pLe le z p = true → pLe le z q = true → ∃ r ∈ hcp names le p q, pLe le z r = true
  | 0, p, q, z, hp, hq, hz, _, _ => by
    refine ⟨[], ?_, by rw [hz.zero]; rfl⟩
    rw [hp.zero, hq.zero]
    show [] ∈ combined []
    rw [mem_combined]
    exact .nil
  | m + 1, p, q, z, hp, hq, hz, h1, h2 => by
    obtain ⟨x, p', rfl, hx, hp'⟩ := hp.shape
    obtain ⟨y, q', rfl, hy, hq'⟩ := hq.shape
    obtain ⟨w, z', rfl, hw, hz'⟩ := hz.shape
    rw [pLe_cons, Bool.and_eq_true] at h1 h2
    obtain ⟨r', hr, k⟩ := has_hcp g hp' hq' hz' h1.2 h2.2
    obtain ⟨v, hv, k2⟩ := has_hc g hw h1.1 h2.1
    refine ⟨v :: r', ?_, by rw [pLe_cons, k2, k]; rfl⟩
    show v :: r' ∈ combined (hc names le x y :: List.zipWith (hc names le) p' q')
    rw [mem_combined]
    exact .cons hv (mem_combined.mp hr)
/-! ### rivals, ambiguous points -/
section
variable {γ : Type} [DecidableEq γ]
def isOne : List γ → Bool
  | [] => false
  | v :: vs => (v :: vs).all fun x => decide (x = v)
theorem isOne_iff {vs : List γ} (h : vs ≠ []) : isOne vs = true ↔ ∀ x ∈ vs, ∀ y ∈ vs, x = y := by
  cases vs with
  | nil => exact absurd rfl h
  | cons v vs =>
    unfold isOne
    rw [List.all_eq_true]
    constructor
    · intro k x hx y hy
      rw [of_decide_eq_true (k x hx), of_decide_eq_true (k y hy)]
    · intro k x hx
      exact decide_eq_true (k x hx v (by simp))
def rivals (le : α → α → Bool) (ks : List (List α)) (p : List α) : List (List α) := lows le (ks.filter fun one => pLe le p one)
/-- the rivals are there and do not agree -/
def amb (le : α → α → Bool) (ks : List (List α)) (ex : List α → γ) (p : List α) : Bool := !((rivals le ks p).map ex).isEmpty && !isOne ((rivals le ks p).map ex)
theorem amb_iff {ks : List (List α)} {ex : List α → γ} {p : List α} : amb le ks ex p = true ↔ ∃ a ∈ rivals le ks p, ∃ b ∈ rivals le ks p, ex a ≠ ex b := by
  unfold amb
  constructor
  · intro h
    rw [Bool.and_eq_true, Bool.not_eq_true', Bool.not_eq_true'] at h
    have hne : (rivals le ks p).map ex ≠ [] := fun e => by rw [e] at h; cases h.1
    refine Classical.byContradiction fun hc => ?_
    have : isOne ((rivals le ks p).map ex) = true := (isOne_iff hne).mpr fun x hx y hy => by
      obtain ⟨a, ha, rfl⟩ := List.mem_map.mp hx
      obtain ⟨b, hb, rfl⟩ := List.mem_map.mp hy
      exact Classical.byContradiction fun e => hc ⟨a, ha, b, hb, e⟩
    rw [this] at h
    cases h.2
  · rintro ⟨a, ha, b, hb, e⟩
    have hne : (rivals le ks p).map ex ≠ [] := fun z => by
      have : ex a ∈ (rivals le ks p).map ex := List.mem_map.mpr ⟨a, ha, rfl⟩
      rw [z] at this
      cases this
    rw [Bool.and_eq_true, Bool.not_eq_true', Bool.not_eq_true']
    refine ⟨by cases q : (rivals le ks p).map ex with | nil => exact absurd q hne | cons _ _ => rfl, ?_⟩
    cases q : isOne ((rivals le ks p).map ex) with
    | false => rfl
    | true => exact absurd ((isOne_iff hne).mp q _ (List.mem_map.mpr ⟨a, ha, rfl⟩) _ (List.mem_map.mpr ⟨b, hb, rfl⟩)) e
theorem mem_rivals {ks : List (List α)} {p a : List α} : a ∈ rivals le ks p ↔ (a ∈ ks ∧ pLe le p a = true) ∧ ∀ b ∈ ks, pLe le p b = true → pLe le b a = true → b = a := by
  unfold rivals lows
  rw [mem_maxs, List.mem_filter]
  constructor
  · rintro ⟨h, k⟩
    exact ⟨h, fun b hb h1 h2 => k b (List.mem_filter.mpr ⟨hb, h1⟩) h2⟩
  · rintro ⟨h, k⟩
    exact ⟨h, fun b hb h2 => k b (List.mem_filter.mp hb).1 (List.mem_filter.mp hb).2 h2⟩
theorem amb_up (g : Grid names le) {m : Nat} {ks : List (List α)} (hk : ∀ p ∈ ks, Pt names m p) {ex : List α → γ} {p : List α} (hp : Pt names m p) (h : amb le ks ex p = true) :
    ∃ a ∈ ks, ∃ b ∈ ks, a ≠ b ∧ ∃ q ∈ hcp names le a b, amb le ks ex q = true ∧ pLe le p q = true := by
  obtain ⟨a, ha, b, hb, e⟩ := amb_iff.mp h
  obtain ⟨⟨ka, la⟩, ma⟩ := mem_rivals.mp ha
  obtain ⟨⟨kb, lb⟩, mb⟩ := mem_rivals.mp hb
  obtain ⟨q, hq, lq⟩ := has_hcp g (hk a ka) (hk b kb) hp la lb
  obtain ⟨pq, qa, qb, _⟩ := (mem_hcp g (hk a ka) (hk b kb)).mp hq
  refine ⟨a, ka, b, kb, fun z => e (by rw [z]), q, hq, amb_iff.mpr ⟨a, ?_, b, ?_, e⟩, lq⟩
  · exact mem_rivals.mpr ⟨⟨ka, qa⟩, fun c hc k1 k2 => ma c hc (pLe_trans g hp pq (hk c hc) lq k1) k2⟩
  · exact mem_rivals.mpr ⟨⟨kb, qb⟩, fun c hc k1 k2 => mb c hc (pLe_trans g hp pq (hk c hc) lq k1) k2⟩
/-- what the program gathers -/
structure Commons (names : List α) (le : α → α → Bool) (ks : List (List α)) (ex : List α → γ) (C : List (List α)) : Prop where
  mem : ∀ r, r ∈ C ↔ amb le ks ex r = true ∧ ∃ (i j : Nat) (a b : List α), j < i ∧ ks[i]? = some a ∧ ks[j]? = some b ∧ r ∈ hcp names le a b
theorem Commons.pt (g : Grid names le) {m : Nat} {ks C : List (List α)} (hk : ∀ p ∈ ks, Pt names m p) {ex : List α → γ} (c : Commons names le ks ex C) : ∀ p ∈ C, Pt names m p := fun p hp => by
  obtain ⟨_, i, j, a, b, _, ha, hb, hr⟩ := (c.mem p).mp hp
  exact ((mem_hcp g (hk a (List.mem_of_getElem? ha)) (hk b (List.mem_of_getElem? hb))).mp hr).1
theorem hcp_symm (g : Grid names le) {m : Nat} {a b r : List α} (ha : Pt names m a) (hb : Pt names m b) (h : r ∈ hcp names le a b) : r ∈ hcp names le b a := by
  obtain ⟨h1, h2, h3, h4⟩ := (mem_hcp g ha hb).mp h
  exact (mem_hcp g hb ha).mpr ⟨h1, h3, h2, fun s hs k1 k2 k3 => h4 s hs k1 k3 k2⟩
theorem Commons.up (g : Grid names le) {m : Nat} {ks C : List (List α)} (hk : ∀ p ∈ ks, Pt names m p) {ex : List α → γ} (c : Commons names le ks ex C) {p : List α} (hp : Pt names m p) (h : amb le ks ex p = true) :
    ∃ q ∈ C, amb le ks ex q = true ∧ pLe le p q = true := by
  obtain ⟨a, ha, b, hb, ne, q, hq, aq, lq⟩ := amb_up g hk hp h
  refine ⟨q, (c.mem q).mpr ⟨aq, ?_⟩, aq, lq⟩
  obtain ⟨i, hi⟩ := List.mem_iff_getElem?.mp ha
  obtain ⟨j, hj⟩ := List.mem_iff_getElem?.mp hb
  have ij : i ≠ j := fun e => by
    subst e
    rw [hi] at hj
    exact ne (Option.some.inj hj)
  by_cases h : j < i
  · exact ⟨i, j, a, b, h, hi, hj, hq⟩
  · exact ⟨j, i, b, a, by omega, hj, hi, hcp_symm g (hk a ha) (hk b hb) hq⟩
theorem due_eq (g : Grid names le) {m : Nat} {ks C : List (List α)} (hk : ∀ p ∈ ks, Pt names m p) {ex : List α → γ} (c : Commons names le ks ex C) :
    highs le ((combos names m).filter fun p => isIn p C) = highs le ((combos names m).filter (amb le ks ex)) := by
  refine maxs_filter (ordPt g fun p hp => mem_combos.mp hp) (fun p hp h => ((c.mem p).mp (isIn_iff.mp h)).1) fun p hp h => ?_
  obtain ⟨q, hq, aq, lq⟩ := c.up g hk (mem_combos.mp hp) h
  exact ⟨q, mem_combos.mpr (c.pt g hk q hq), isIn_iff.mpr hq, .inr lq⟩
theorem settled_eq (g : Grid names le) {m : Nat} {ks C : List (List α)} (hk : ∀ p ∈ ks, Pt names m p) {ex : List α → γ} (c : Commons names le ks ex C) :
    C = [] ↔ (combos names m).filter (amb le ks ex) = [] := by
  constructor
  · intro e
    rw [List.filter_eq_nil_iff]
    intro p hp h
    obtain ⟨q, hq, _⟩ := c.up g hk (mem_combos.mp hp) h
    rw [e] at hq
    cases hq
  · intro e
    cases q : C with
    | nil => rfl
    | cons p r =>
      have hp : p ∈ C := by rw [q]; simp
      have : p ∈ (combos names m).filter (amb le ks ex) := List.mem_filter.mpr ⟨mem_combos.mpr (c.pt g hk p hp), ((c.mem p).mp hp).1⟩
      rw [e] at this
      cases this
theorem due_meet (g : Grid names le) {m : Nat} {ks C : List (List α)} (hk : ∀ p ∈ ks, Pt names m p) {ex : List α → γ} (c : Commons names le ks ex C) {p : List α} (hp : p ∈ highs le ((combos names m).filter fun p => isIn p C)) :
    ∃ a ∈ ks, ∃ b ∈ ks, p ∈ highs le ((combos names m).filter fun e => pLe le e a && pLe le e b) := by
  have h1 : p ∈ C := isIn_iff.mp (List.mem_filter.mp (mem_maxs.mp hp).1).2
  obtain ⟨_, i, j, a, b, _, ha, hb, hr⟩ := (c.mem p).mp h1
  have ka := List.mem_of_getElem? ha
  have kb := List.mem_of_getElem? hb
  obtain ⟨q1, q2, q3, q4⟩ := (mem_hcp g (hk a ka) (hk b kb)).mp hr
  refine ⟨a, ka, b, kb, mem_maxs.mpr ⟨List.mem_filter.mpr ⟨mem_combos.mpr q1, by rw [q2, q3]; rfl⟩, fun s hs hl => ?_⟩⟩
  rw [List.mem_filter, Bool.and_eq_true] at hs
  exact q4 s (mem_combos.mp hs.1) hl hs.2.1 hs.2.2
end
end
end FM

/-! ## FUp -/
set_option Elab.async false
set_option linter.all false
/-! The rows of a hierarchy, and the order that they make. -/
namespace FM
section
variable {α : Type} [DecidableEq α]
abbrev Rows (α : Type) := List (α × List α)
def nms (rows : Rows α) : List α := rows.map (·.1)
/-- one row, seen from below -/
def upStep (F : List α) (r : α × List α) : List α := if isIn r.1 F = true then F ++ r.2.filter (fun s => !isIn s F) else F
def upAll (rows : Rows α) (F : List α) : List α := rows.reverse.foldl upStep F
inductive Good : Rows α → Prop
  | nil : Good []
  | snoc {pre : Rows α} {r : α × List α} : Good pre → r.1 ∉ nms pre → (∀ s ∈ r.2, s ∈ nms pre) → r.2.Nodup → Good (pre ++ [r])
def Up (rows : Rows α) (x y : α) : Prop := y ∈ upAll rows [x]
def leOf (rows : Rows α) (x y : α) : Bool := isIn y (upAll rows [x])
theorem leOf_iff {rows : Rows α} {x y : α} : leOf rows x y = true ↔ Up rows x y := isIn_iff
theorem upAll_snoc (pre : Rows α) (r : α × List α) (F : List α) : upAll (pre ++ [r]) F = upAll pre (upStep F r) := by
  unfold upAll
  rw [List.reverse_append]
  rfl
theorem nms_snoc (pre : Rows α) (r : α × List α) : nms (pre ++ [r]) = nms pre ++ [r.1] := by simp [nms]
theorem mem_upStep {F : List α} {r : α × List α} {y : α} : y ∈ upStep F r ↔ y ∈ F ∨ (r.1 ∈ F ∧ y ∈ r.2) := by
  unfold upStep
  by_cases h : r.1 ∈ F
  · rw [if_pos (isIn_iff.mpr h), List.mem_append, List.mem_filter]
    simp only [Bool.not_eq_true', isIn_not]
    constructor
    · rintro (k | ⟨k, _⟩)
      · exact .inl k
      · exact .inr ⟨h, k⟩
    · rintro (k | ⟨_, k⟩)
      · exact .inl k
      · by_cases q : y ∈ F
        · exact .inl q
        · exact .inr ⟨k, q⟩
  · rw [if_neg (by rw [isIn_iff]; exact h)]
    exact ⟨.inl, fun k => k.elim id fun z => absurd z.1 h⟩
theorem mem_upAll : ∀ (l : Rows α) (F : List α) (y : α), y ∈ l.foldl upStep F ↔ ∃ f ∈ F, y ∈ l.foldl upStep [f]
  | [], F, y => by simp
  | r :: l, F, y => by
    rw [List.foldl_cons, mem_upAll l]
    constructor
    · rintro ⟨f, hf, h⟩
      rcases mem_upStep.mp hf with k | ⟨k1, k2⟩
      · exact ⟨f, k, by rw [List.foldl_cons, mem_upAll l]; exact ⟨f, mem_upStep.mpr (.inl (by simp)), h⟩⟩
      · exact ⟨r.1, k1, by rw [List.foldl_cons, mem_upAll l]; exact ⟨f, mem_upStep.mpr (.inr ⟨by simp, k2⟩), h⟩⟩
    · rintro ⟨f, hf, h⟩
      rw [List.foldl_cons, mem_upAll l] at h
      obtain ⟨e, he, h⟩ := h
      refine ⟨e, ?_, h⟩
      rcases mem_upStep.mp he with k | ⟨k1, k2⟩
      · rw [List.mem_singleton.mp k]; exact mem_upStep.mpr (.inl hf)
      · exact mem_upStep.mpr (.inr ⟨by rw [List.mem_singleton.mp k1]; exact hf, k2⟩)
theorem up_nil {x y : α} : Up ([] : Rows α) x y ↔ y = x := by
  show y ∈ [x] ↔ _
  simp
theorem up_snoc {pre : Rows α} {r : α × List α} {x y : α} : Up (pre ++ [r]) x y ↔ Up pre x y ∨ (x = r.1 ∧ ∃ s ∈ r.2, Up pre s y) := by
  unfold Up
  rw [upAll_snoc]
  unfold upAll
  rw [mem_upAll]
  constructor
  · rintro ⟨f, hf, h⟩
    rcases mem_upStep.mp hf with k | ⟨k1, k2⟩
    · rw [List.mem_singleton.mp k] at h; exact .inl h
    · exact .inr ⟨(List.mem_singleton.mp k1).symm, f, k2, h⟩
  · rintro (h | ⟨e, s, hs, h⟩)
    · exact ⟨x, mem_upStep.mpr (.inl (by simp)), h⟩
    · exact ⟨s, mem_upStep.mpr (.inr ⟨by simp [e], hs⟩), h⟩
theorem up_refl {rows : Rows α} (x : α) : Up rows x x := by
  unfold Up upAll
  generalize rows.reverse = l
  have : ∀ (l : Rows α) (F : List α), x ∈ F → x ∈ l.foldl upStep F := by
    intro l
    induction l with
    | nil => exact fun _ h => h
    | cons r l ih => exact fun F h => ih _ (mem_upStep.mpr (.inl h))
  exact this l [x] (by simp)
theorem up_out {rows : Rows α} (g : Good rows) : ∀ {x y : α}, x ∉ nms rows → (Up rows x y ↔ y = x) := by
  induction g with
  | nil => exact fun _ => up_nil
  | @snoc pre r g h1 h2 h3 ih =>
    intro x y hx
    rw [nms_snoc, List.mem_append, not_or] at hx
    rw [up_snoc, ih hx.1]
    constructor
    · rintro (e | ⟨e, _⟩)
      · exact e
      · exact absurd (by simp [e]) hx.2
    · exact .inl
theorem up_keep {pre : Rows α} {r : α × List α} {x y : α} (h : x ≠ r.1) : Up (pre ++ [r]) x y ↔ Up pre x y := by
  rw [up_snoc]
  exact ⟨fun k => k.elim id fun z => absurd z.1 h, .inl⟩
theorem up_last {pre : Rows α} {r : α × List α} (g : Good pre) (h : r.1 ∉ nms pre) {y : α} : Up (pre ++ [r]) r.1 y ↔ y = r.1 ∨ ∃ s ∈ r.2, Up pre s y := by
  rw [up_snoc, up_out g h]
  exact ⟨fun k => k.elim .inl fun z => .inr z.2, fun k => k.elim .inl fun z => .inr ⟨rfl, z⟩⟩
theorem up_in {rows : Rows α} (g : Good rows) : ∀ {x y : α}, x ∈ nms rows → Up rows x y → y ∈ nms rows ∧ (nms rows).idxOf y ≤ (nms rows).idxOf x ∧ (x ≠ y → (nms rows).idxOf y < (nms rows).idxOf x) := by
  induction g with
  | nil => intro x y hx; cases hx
  | @snoc pre r g h1 h2 h3 ih =>
    intro x y hx h
    have last : ∀ z ∈ nms pre, (nms pre ++ [r.1]).idxOf z = (nms pre).idxOf z := fun z hz => by rw [List.idxOf_append, if_pos hz]
    have lt : ∀ z ∈ nms pre, (nms pre).idxOf z < (nms pre).length := fun z hz => List.idxOf_lt_length_iff.mpr hz
    have lr : (nms pre ++ [r.1]).idxOf r.1 = (nms pre).length := by
      rw [List.idxOf_append, if_neg h1]
      simp
    rw [nms_snoc, List.mem_append, List.mem_singleton] at hx
    rw [nms_snoc]
    by_cases e : x = r.1
    · subst e
      rcases (up_last g h1).mp h with rfl | ⟨s, hs, k⟩
      · exact ⟨by simp, Nat.le_refl _, fun z => absurd rfl z⟩
      · obtain ⟨k1, k2, _⟩ := ih (h2 s hs) k
        have := lt y k1
        rw [last y k1, lr]
        exact ⟨by simp [k1], by omega, fun _ => this⟩
    · have hx' : x ∈ nms pre := hx.resolve_right e
      obtain ⟨k1, k2, k3⟩ := ih hx' ((up_keep e).mp h)
      rw [last y k1, last x hx']
      exact ⟨by simp [k1], k2, k3⟩
theorem up_trans {rows : Rows α} (g : Good rows) : ∀ {x y z : α}, x ∈ nms rows → Up rows x y → Up rows y z → Up rows x z := by
  induction g with
  | nil => intro x y z hx; cases hx
  | @snoc pre r g h1 h2 h3 ih =>
    intro x y z hx a b
    rw [nms_snoc, List.mem_append, List.mem_singleton] at hx
    by_cases e : x = r.1
    · subst e
      rcases (up_last g h1).mp a with rfl | ⟨s, hs, k⟩
      · exact b
      · have yp := (up_in g (h2 s hs) k).1
        have ny : y ≠ r.1 := fun e => h1 (e ▸ yp)
        exact (up_last g h1).mpr (.inr ⟨s, hs, ih (h2 s hs) k ((up_keep ny).mp b)⟩)
    · have hx' : x ∈ nms pre := hx.resolve_right e
      have a' := (up_keep e).mp a
      have yp := (up_in g hx' a').1
      have ny : y ≠ r.1 := fun e => h1 (e ▸ yp)
      exact (up_keep e).mpr (ih hx' a' ((up_keep ny).mp b))
theorem Good.nodup {rows : Rows α} (g : Good rows) : (nms rows).Nodup := by
  induction g with
  | nil => exact List.nodup_nil
  | @snoc pre r g h1 h2 h3 ih =>
    rw [nms_snoc, List.nodup_append]
    refine ⟨ih, by simp, fun a ha b hb e => ?_⟩
    rw [List.mem_singleton.mp hb] at e
    exact h1 (e ▸ ha)
theorem Good.grid {rows : Rows α} (g : Good rows) : Grid (nms rows) (leOf rows) where
  nodup := g.nodup
  refl := fun x _ => leOf_iff.mpr (up_refl x)
  trans := fun x hx y hy z hz a b => leOf_iff.mpr (up_trans g hx (leOf_iff.mp a) (leOf_iff.mp b))
  down := fun x hx y hy a e => (up_in g hx (leOf_iff.mp a)).2.2 e
/-- the equation by which the program reckons -/
theorem up_eq {rows : Rows α} (g : Good rows) : ∀ {r : α × List α} {y : α}, r ∈ rows → (Up rows r.1 y ↔ y = r.1 ∨ ∃ s ∈ r.2, Up rows s y) := by
  induction g with
  | nil => intro r y h; cases h
  | @snoc pre q g h1 h2 h3 ih =>
    intro r y h
    have keep : ∀ s ∈ nms pre, (Up (pre ++ [q]) s y ↔ Up pre s y) := fun s hs => up_keep fun e => h1 (e ▸ hs)
    have sup : ∀ {l : Rows α}, Good l → ∀ r ∈ l, ∀ s ∈ r.2, s ∈ nms l := by
      intro l gl
      induction gl with
      | nil => intro r h; cases h
      | @snoc pre q g h1 h2 h3 ih =>
        intro r hr s hs
        rw [nms_snoc, List.mem_append]
        rcases List.mem_append.mp hr with k | k
        · exact .inl (ih r k s hs)
        · rw [List.mem_singleton.mp k] at hs
          exact .inl (h2 s hs)
    rcases List.mem_append.mp h with k | k
    · have hr : r.1 ∈ nms pre := List.mem_map.mpr ⟨r, k, rfl⟩
      rw [keep r.1 hr, ih k]
      constructor
      · rintro (e | ⟨s, hs, z⟩)
        · exact .inl e
        · exact .inr ⟨s, hs, (keep s (sup g r k s hs)).mpr z⟩
      · rintro (e | ⟨s, hs, z⟩)
        · exact .inl e
        · exact .inr ⟨s, hs, (keep s (sup g r k s hs)).mp z⟩
    · rw [List.mem_singleton.mp k, up_last g h1]
      constructor
      · rintro (e | ⟨s, hs, z⟩)
        · exact .inl e
        · exact .inr ⟨s, hs, (keep s (h2 s hs)).mpr z⟩
      · rintro (e | ⟨s, hs, z⟩)
        · exact .inl e
        · exact .inr ⟨s, hs, (keep s (h2 s hs)).mp z⟩
theorem leOf_keep {pre : Rows α} {r : α × List α} {x y : α} (h : x ≠ r.1) : leOf (pre ++ [r]) x y = leOf pre x y := by
  rw [Bool.eq_iff_iff, leOf_iff, leOf_iff]
  exact up_keep h
/-- rows that come earlier -/
theorem Good.take {rows : Rows α} (g : Good rows) : ∀ {pre post : Rows α} {r : α × List α}, rows = pre ++ r :: post → r.1 ∉ nms pre ∧ (∀ s ∈ r.2, s ∈ nms pre) ∧ r.2.Nodup ∧ Good pre := by
  induction g with
  | nil => intro pre post r e; simp at e
  | @snoc pre q g h1 h2 h3 ih =>
    intro pre' post r e
    rcases List.eq_nil_or_concat post with rfl | ⟨post', z, rfl⟩
    · have e2 : pre ++ [q] = pre' ++ [r] := e
      have := List.append_inj' e2 rfl
      obtain ⟨rfl, e3⟩ := this
      injection e3 with e3 _
      subst e3
      exact ⟨h1, h2, h3, g⟩
    · have e2 : pre ++ [q] = (pre' ++ r :: post') ++ [z] := by rw [e]; simp
      have := List.append_inj' e2 rfl
      exact ih this.1
end
end FM

/-! ## FGrow -/
set_option Elab.async false
set_option linter.all false
/-! Expansions: each method's body with its next step written out. -/
namespace FM
section
variable {α : Type} [DecidableEq α] {σ : Type} [DecidableEq σ]
abbrev Meths (α σ : Type) := List (List α × List σ)
/-- the value that stands at a key -/
def at? {κ υ : Type} [DecidableEq κ] (l : List (κ × υ)) (k : κ) : Option υ := (l.find? fun z => decide (z.1 = k)).map (·.2)
theorem at?_nil {κ υ : Type} [DecidableEq κ] (k : κ) : at? ([] : List (κ × υ)) k = none := rfl
theorem at?_cons {κ υ : Type} [DecidableEq κ] (z : κ × υ) (l : List (κ × υ)) (k : κ) : at? (z :: l) k = if z.1 = k then some z.2 else at? l k := by
  unfold at?
  rw [List.find?_cons]
  by_cases h : z.1 = k <;> simp [h]
theorem at?_some {κ υ : Type} [DecidableEq κ] {l : List (κ × υ)} {k : κ} (h : k ∈ l.map (·.1)) : ∃ v, at? l k = some v ∧ (k, v) ∈ l := by
  induction l with
  | nil => cases h
  | cons z l ih =>
    rw [at?_cons]
    by_cases e : z.1 = k
    · rw [if_pos e]
      exact ⟨z.2, rfl, by rw [← e]; simp⟩
    · rw [if_neg e]
      rw [List.map_cons, List.mem_cons] at h
      obtain ⟨v, h1, h2⟩ := ih (h.resolve_left fun q => e q.symm)
      exact ⟨v, h1, by simp [h2]⟩
theorem at?_none {κ υ : Type} [DecidableEq κ] {l : List (κ × υ)} {k : κ} (h : k ∉ l.map (·.1)) : at? l k = none := by
  induction l with
  | nil => rfl
  | cons z l ih =>
    rw [List.map_cons, List.mem_cons, not_or] at h
    rw [at?_cons, if_neg fun e => h.1 e.symm, ih h.2]
theorem at?_append {κ υ : Type} [DecidableEq κ] (a b : List (κ × υ)) (k : κ) : at? (a ++ b) k = (at? a k).or (at? b k) := by
  induction a with
  | nil => simp [at?_nil]
  | cons z a ih =>
    rw [List.cons_append, at?_cons, at?_cons, ih]
    by_cases e : z.1 = k <;> simp [e]
theorem at?_keep {κ υ : Type} [DecidableEq κ] {a b : List (κ × υ)} {k : κ} (h : k ∈ a.map (·.1)) : at? (a ++ b) k = at? a k := by
  obtain ⟨v, e, _⟩ := at?_some h
  rw [at?_append, e]
  rfl
theorem at?_mem {κ υ : Type} [DecidableEq κ] {l : List (κ × υ)} {k : κ} {v : υ} (hn : (l.map (·.1)).Nodup) (h : (k, v) ∈ l) : at? l k = some v := by
  induction l with
  | nil => cases h
  | cons z l ih =>
    rw [List.map_cons, List.nodup_cons] at hn
    rw [at?_cons]
    rcases List.mem_cons.mp h with e | h
    · rw [← e, if_pos rfl]
    · have : z.1 ≠ k := fun e => hn.1 (by rw [e]; exact List.mem_map.mpr ⟨_, h, rfl⟩)
      rw [if_neg this, ih hn.2 h]
/-- the methods just above -/
def near (le : α → α → Bool) (ks : List (List α)) (s : List α) : List (List α) := lows le (ks.filter fun one => !decide (one = s) && pLe le s one)
/-- the expansions that stand at some points -/
def valsAt (acc : Meths α σ) (ps : List (List α)) : List (List σ) := ps.map fun p => (at? acc p).getD []
def subst (nx : σ) (b st : List σ) : List σ := b.flatMap fun s => if s = nx then st else [s]
def grow (nr : List α → List (List α)) (nx : σ) : Meths α σ → Meths α σ → Meths α σ
  | acc, [] => acc
  | acc, z :: r => grow nr nx (acc ++ [(z.1, subst nx z.2 ((valsAt acc (nr z.1)).headD []))]) r
/-- each method with a next step has a next -/
def Comp (nr : List α → List (List α)) (nx : σ) : Meths α σ → Meths α σ → Prop
  | _, [] => True
  | acc, z :: r => (nx ∈ z.2 → isOne (valsAt acc (nr z.1)) = true) ∧ Comp nr nx (acc ++ [(z.1, subst nx z.2 ((valsAt acc (nr z.1)).headD []))]) r
theorem grow_keys (nr : List α → List (List α)) (nx : σ) : ∀ (made acc : Meths α σ), (grow nr nx acc made).map (·.1) = acc.map (·.1) ++ made.map (·.1)
  | [], acc => by simp [grow]
  | z :: r, acc => by rw [grow, grow_keys nr nx r]; simp
theorem grow_append (nr : List α → List (List α)) (nx : σ) : ∀ (a b acc : Meths α σ), grow nr nx acc (a ++ b) = grow nr nx (grow nr nx acc a) b
  | [], b, acc => rfl
  | z :: a, b, acc => by rw [List.cons_append, grow, grow, grow_append nr nx a b]
theorem comp_append (nr : List α → List (List α)) (nx : σ) : ∀ (a b acc : Meths α σ), Comp nr nx acc (a ++ b) ↔ Comp nr nx acc a ∧ Comp nr nx (grow nr nx acc a) b
  | [], b, acc => by simp [Comp, grow]
  | z :: a, b, acc => by rw [List.cons_append, Comp, Comp, grow, comp_append nr nx a b, and_assoc]
theorem grow_congr {nr nr' : List α → List (List α)} {nx : σ} : ∀ {made acc : Meths α σ}, (∀ z ∈ made, nr z.1 = nr' z.1) → grow nr nx acc made = grow nr' nx acc made
  | [], _, _ => rfl
  | z :: r, acc, h => by rw [grow, grow, h z (by simp), grow_congr fun y hy => h y (by simp [hy])]
theorem comp_congr {nr nr' : List α → List (List α)} {nx : σ} : ∀ {made acc : Meths α σ}, (∀ z ∈ made, nr z.1 = nr' z.1) → (Comp nr nx acc made ↔ Comp nr' nx acc made)
  | [], _, _ => Iff.rfl
  | z :: r, acc, h => by rw [Comp, Comp, h z (by simp), comp_congr fun y hy => h y (by simp [hy])]
theorem mem_near {le : α → α → Bool} {ks : List (List α)} {s p : List α} (h : p ∈ near le ks s) : p ∈ ks ∧ p ≠ s ∧ pLe le s p = true := by
  have h1 := (mem_maxs.mp h).1
  rw [List.mem_filter, Bool.and_eq_true, Bool.not_eq_true', decide_eq_false_iff_not] at h1
  exact ⟨h1.1, h1.2.1, h1.2.2⟩
variable {names : List α} {le : α → α → Bool}
/-- the methods just above stand ahead -/
theorem near_ahead (g : Grid names le) {m : Nat} {pre post : List (List α)} {s : List α} (hp : ∀ p ∈ pre ++ s :: post, Pt names m p) (h : Sorted names (pre ++ s :: post)) : ∀ p ∈ near le (pre ++ s :: post) s, p ∈ pre := fun p hm => by
  obtain ⟨h1, h2, h3⟩ := mem_near hm
  rcases List.mem_append.mp h1 with k | k
  · exact k
  · rcases List.mem_cons.mp k with k | k
    · exact absurd k h2
    · have h4 := pLe_ix g (hp s (by simp)) (hp p h1) h3 fun e => h2 e.symm
      have h5 := (List.pairwise_cons.mp (List.pairwise_append.mp h).2.1).1 p k
      exact absurd (int_lt_trans h4 h5) (int_lt_irrefl _)
theorem near_snoc (g : Grid names le) {m : Nat} {ks : List (List α)} {s : List α} (hp : ∀ p ∈ ks ++ [s], Pt names m p) (h : Sorted names (ks ++ [s])) : (∀ k ∈ ks, near le (ks ++ [s]) k = near le ks k) ∧ near le (ks ++ [s]) s = near le ks s := by
  unfold near
  constructor
  · intro k hk
    have : ([s].filter fun one => !decide (one = k) && pLe le k one) = [] := by
      rw [List.filter_eq_nil_iff]
      intro x hx
      rw [List.mem_singleton.mp hx]
      intro q
      rw [Bool.and_eq_true, Bool.not_eq_true', decide_eq_false_iff_not] at q
      have h4 := pLe_ix g (hp k (by simp [hk])) (hp s (by simp)) q.2 fun e => q.1 e.symm
      have h5 := (List.pairwise_append.mp h).2.2 k hk s (by simp)
      exact absurd (int_lt_trans h4 h5) (int_lt_irrefl _)
    rw [List.filter_append, this, List.append_nil]
  · have : ([s].filter fun one => !decide (one = s) && pLe le s one) = [] := by simp
    rw [List.filter_append, this, List.append_nil]
/-- one more method -/
theorem comp_snoc (g : Grid names le) {m : Nat} {nx : σ} {made : Meths α σ} {s : List α} {b : List σ} (hp : ∀ p ∈ made.map (·.1) ++ [s], Pt names m p) (h : Sorted names (made.map (·.1) ++ [s]))
    (c : Comp (near le (made.map (·.1))) nx [] made) (hb : nx ∈ b → isOne (valsAt (grow (near le (made.map (·.1))) nx [] made) (near le (made.map (·.1)) s)) = true) :
    Comp (near le ((made ++ [(s, b)]).map (·.1))) nx [] (made ++ [(s, b)]) := by
  have e : (made ++ [(s, b)]).map (·.1) = made.map (·.1) ++ [s] := by simp
  rw [e]
  obtain ⟨n1, n2⟩ := near_snoc g hp h
  have nc : ∀ z ∈ made, near le (made.map (·.1) ++ [s]) z.1 = near le (made.map (·.1)) z.1 := fun z hz => n1 z.1 (List.mem_map.mpr ⟨z, hz, rfl⟩)
  rw [comp_append, comp_congr nc, grow_congr nc]
  exact ⟨c, fun k => by show isOne (valsAt _ (near le _ s)) = true; rw [n2]; exact hb k, trivial⟩
/-- a wider hierarchy that agrees on the old names -/
theorem pLe_congr {le' : α → α → Bool} : ∀ {m : Nat} {p q : List α}, Pt names m p → (∀ x ∈ names, ∀ y, le' x y = le x y) → pLe le' p q = pLe le p q
  | 0, p, q, hp, _ => by rw [hp.zero]; rfl
  | m + 1, p, q, hp, h => by
    obtain ⟨x, p, rfl, hx, hp⟩ := hp.shape
    cases q with
    | nil => rfl
    | cons y q => rw [pLe_cons, pLe_cons, h x hx, pLe_congr hp h]
theorem near_congr {le' : α → α → Bool} {m : Nat} {ks : List (List α)} (hk : ∀ p ∈ ks, Pt names m p) (h : ∀ x ∈ names, ∀ y, le' x y = le x y) {s : List α} (hs : s ∈ ks) : near le' ks s = near le ks s := by
  unfold near lows maxs
  have e1 : (ks.filter fun one => !decide (one = s) && pLe le' s one) = ks.filter fun one => !decide (one = s) && pLe le s one := List.filter_congr fun p hp => by rw [pLe_congr (hk s hs) h]
  rw [e1]
  refine List.filter_congr fun a ha => ?_
  congr 1
  rw [Bool.eq_iff_iff, List.any_eq_true, List.any_eq_true]
  have k : ∀ b ∈ (ks.filter fun one => !decide (one = s) && pLe le s one), pLe le' b a = pLe le b a := fun b hb => pLe_congr (hk b (List.mem_filter.mp hb).1) h
  constructor
  · rintro ⟨b, hb, q⟩
    exact ⟨b, hb, by have q2 : (!decide (b = a) && pLe le' b a) = true := q; rw [k b hb] at q2; exact q2⟩
  · rintro ⟨b, hb, q⟩
    exact ⟨b, hb, by show (!decide (b = a) && pLe le' b a) = true; rw [k b hb]; exact q⟩
theorem Pt.more {x : α} {m : Nat} {p : List α} (h : Pt names m p) : Pt (names ++ [x]) m p := ⟨h.1, fun y hy => by simp [h.2 y hy]⟩
theorem Sorted.more {x : α} {m : Nat} {ps : List (List α)} (hp : ∀ p ∈ ps, Pt names m p) (h : Sorted names ps) : Sorted (names ++ [x]) ps := by
  refine List.Pairwise.imp_of_mem (fun {a b} ha hb k => ?_) h
  have e : ∀ p ∈ ps, ix (names ++ [x]) p = ix names p := fun p hq => by
    unfold ix
    refine List.map_congr_left fun y hy => ?_
    rw [List.idxOf_append, if_pos ((hp p hq).2 y hy)]
  rw [e a ha, e b hb]
  exact k
/-- what the program does with a body -/
def common (vs : List (List σ)) : Option (List σ) := if isOne vs = true then vs.head? else none
def replaceNext (nx : σ) (b st : List σ) : List σ := if nx ∈ b then b.take (b.idxOf nx) ++ st ++ b.drop (b.idxOf nx + 1) else b
theorem subst_out {nx : σ} : ∀ {b st : List σ}, nx ∉ b → subst nx b st = b
  | [], _, _ => rfl
  | s :: b, st, h => by
    rw [List.mem_cons, not_or] at h
    show (if s = nx then st else [s]) ++ subst nx b st = _
    rw [if_neg fun e => h.1 e.symm, subst_out h.2]
    rfl
theorem subst_one {nx : σ} : ∀ {b st : List σ}, b.count nx ≤ 1 → subst nx b st = replaceNext nx b st
  | [], st, _ => rfl
  | s :: b, st, h => by
    by_cases e : s = nx
    · subst e
      have h0 : s ∉ b := fun k => by
        have := List.count_pos_iff.mpr k
        rw [List.count_cons_self] at h
        omega
      show (if s = s then st else [s]) ++ subst s b st = replaceNext s (s :: b) st
      rw [if_pos rfl, subst_out h0]
      simp [replaceNext]
    · have h1 : b.count nx ≤ 1 := by
        rw [List.count_cons_of_ne e] at h
        exact h
      show (if s = nx then st else [s]) ++ subst nx b st = replaceNext nx (s :: b) st
      rw [if_neg e, subst_one h1]
      unfold replaceNext
      by_cases k : nx ∈ b
      · rw [if_pos k, if_pos (by simp [k]), List.idxOf_cons]
        have : (s == nx) = false := by simp [e]
        simp [this]
      · rw [if_neg k, if_neg (by rw [List.mem_cons]; exact fun z => z.elim (fun z => e z.symm) k)]
        rfl
theorem expand_eq {nx : σ} {b : List σ} {vs : List (List σ)} (hb : b.count nx ≤ 1) (hn : nx ∈ b → isOne vs = true) : (match common vs with | none => b | some st => replaceNext nx b st) = subst nx b (vs.headD []) := by
  unfold common
  cases q : isOne vs with
  | false =>
    have : nx ∉ b := fun k => by rw [hn k] at q; cases q
    simp [subst_out this]
  | true =>
    cases vs with
    | nil => cases q
    | cons v vs => simp [subst_one hb]
end
end FM

/-! ## FBase -/
set_option Elab.async false
set_option linter.all false
set_option maxRecDepth 100000
set_option maxHeartbeats 2000000
/-! Readers of the abstract heap, and what expressions come to, said by readers. -/
namespace FM
open PySem PySem.Spec PyProof.Rows L2
open Evl (Ex EvT)

/-! ### heaps -/
def isDic : HO → Prop
  | .dT _ => True
  | _ => False
/-- a dict with tuples as keys may be locked or unlocked, all else stays -/
structure Exw (H H' : Hp) : Prop where
  same : ∀ a o, ¬ isDic o → (∀ ob u, o = .frz ob u → ¬ isDic u) → H a = some o → H' a = some o
  dic : ∀ a o, isDic o → L2.Rd H a o → L2.Rd H' a o
theorem Exw.of {H H' : Hp} (e : Ex H H') : Exw H H' := ⟨fun a o _ _ h => e a o h, fun a o _ h => Evl.ex_rd e h⟩
theorem Exw.trans {H H1 H2 : Hp} (a : Exw H H1) (b : Exw H1 H2) : Exw H H2 := ⟨fun x o h1 h2 h => b.same x o h1 h2 (a.same x o h1 h2 h), fun x o h1 h => b.dic x o h1 (a.dic x o h1 h)⟩
theorem Exw.lock {H : Hp} {d : Addr} {u : HO} {od : Obj} (h : H d = some u) (hu : isDic u) : Exw H (upd H d (.frz od u)) where
  same := fun a o h1 h2 e => by
    have ne : a ≠ d := fun z => by subst z; rw [h] at e; cases e; exact h1 hu
    rw [upd_ne ne]; exact e
  dic := fun a o h1 e => by
    by_cases z : a = d
    · subst z
      rcases e with e | ⟨ob, e⟩
      · rw [h] at e; cases e; exact .inr ⟨od, upd_same⟩
      · rw [h] at e; cases e; exact absurd hu (fun z => z)
    · rcases e with e | ⟨ob, e⟩
      · exact .inl (by rw [upd_ne z]; exact e)
      · exact .inr ⟨ob, by rw [upd_ne z]; exact e⟩
theorem Exw.unlock {H : Hp} {d : Addr} {u : HO} {od : Obj} (h : H d = some (.frz od u)) (hu : isDic u) : Exw H (upd H d u) where
  same := fun a o h1 h2 e => by
    have ne : a ≠ d := fun z => by subst z; rw [h] at e; cases e; exact h2 _ _ rfl hu
    rw [upd_ne ne]; exact e
  dic := fun a o h1 e => by
    by_cases z : a = d
    · subst z
      rcases e with e | ⟨ob, e⟩
      · rw [h] at e; cases e; exact absurd h1 (fun z => z)
      · rw [h] at e; cases e; exact .inl upd_same
    · rcases e with e | ⟨ob, e⟩
      · exact .inl (by rw [upd_ne z]; exact e)
      · exact .inr ⟨ob, by rw [upd_ne z]; exact e⟩
theorem ex_unlock {H H' : Hp} {d : Addr} {u : HO} {od : Obj} (h : H d = some u) (e : Ex (upd H d (.frz od u)) H') : Ex H (upd H' d u) := fun a o q => by
  by_cases z : a = d
  · subst z; rw [h] at q; cases q; exact upd_same
  · rw [upd_ne z]; exact e a o (by rw [upd_ne z]; exact q)
theorem ex_lock {H H' : Hp} {d : Addr} {u : HO} {od : Obj} (e : Ex H H') : Ex (upd H d (.frz od u)) (upd H' d (.frz od u)) := fun a o q => by
  by_cases z : a = d
  · subst z; rw [upd_same] at q ⊢; exact q
  · rw [upd_ne z] at q ⊢; exact e a o q
/-- tuples stay -/
def Tx (H H' : Hp) : Prop := ∀ a o xs, (o = .tup xs ∨ ∃ ob, o = .frz ob (.tup xs)) → H a = some o → H' a = some o
theorem Tx.of {H H' : Hp} (e : Ex H H') : Tx H H' := fun a _ _ _ h => e a _ h
theorem Tx.trans {H H1 H2 : Hp} (a : Tx H H1) (b : Tx H1 H2) : Tx H H2 := fun x o xs k h => b x o xs k (a x o xs k h)
theorem Tx.upd {H : Hp} {p : Addr} {o u : HO} (h : H p = some u) (hu : ∀ xs, u ≠ .tup xs) (hf : ∀ ob xs, u ≠ .frz ob (.tup xs)) : Tx H (upd H p o) := fun a z xs k e => by
  rw [upd_ne (ne_of e h (fun q => k.elim (fun k => hu xs (q.symm.trans k)) fun ⟨ob, k⟩ => hf ob xs (q.symm.trans k)))]
  exact e
theorem Tx.t {H H' : Hp} (e : Tx H H') {a : Addr} {xs : List V} (h : H a = some (.tup xs)) : H' a = some (.tup xs) := e a _ xs (.inl rfl) h
theorem Tx.rd {H H' : Hp} (e : Tx H H') {a : Addr} {xs : List V} (h : L2.Rd H a (.tup xs)) : L2.Rd H' a (.tup xs) := by
  rcases h with h | ⟨ob, h⟩
  · exact .inl (e.t h)
  · exact .inr ⟨ob, e a _ xs (.inr ⟨ob, rfl⟩) h⟩

/-! ### readers -/
abbrev Rdr (β : Type) := Hp → V → β → Prop
class MonoW {β : Type} (R : Rdr β) : Prop where
  mono : ∀ {H H' : Hp} {v : V} {x : β}, Exw H H' → R H v x → R H' v x
class MoT {β : Type} (R : Rdr β) : Prop where
  mot : ∀ {H H' : Hp} {v : V} {x : β}, Tx H H' → R H v x → R H' v x
/-- what stands stays -/
class Mono {β : Type} (R : Rdr β) : Prop where
  mono : ∀ {H H' : Hp} {v : V} {x : β}, Ex H H' → R H v x → R H' v x
instance (priority := low) {β : Type} {R : Rdr β} [MonoW R] : Mono R := ⟨fun e h => MonoW.mono (.of e) h⟩
theorem up {β : Type} {R : Rdr β} [Mono R] {H H' : Hp} {v : V} {x : β} (e : Ex H H') (h : R H v x) : R H' v x := Mono.mono e h
theorem upW {β : Type} {R : Rdr β} [MonoW R] {H H' : Hp} {v : V} {x : β} (e : Exw H H') (h : R H v x) : R H' v x := MonoW.mono e h
theorem upT {β : Type} {R : Rdr β} [MoT R] {H H' : Hp} {v : V} {x : β} (e : Tx H H') (h : R H v x) : R H' v x := MoT.mot e h
def sOk (x : Str) : Prop := PyData.canLay0 (.str x) = true
def rStr : Rdr Str := fun _ v x => v = .str x ∧ sOk x
def rInt : Rdr Int := fun _ v i => v = .int i
def rTup {β : Type} (R : Rdr β) : Rdr (List β) := fun H v xs => ∃ a vs, v = .ref a ∧ H a = some (.tup vs) ∧ Paired (R H) vs xs
/-- a tuple that may be held -/
def rTupR {β : Type} (R : Rdr β) : Rdr (List β) := fun H v xs => ∃ a vs, v = .ref a ∧ L2.Rd H a (.tup vs) ∧ Paired (R H) vs xs
/-- a tuple of which it is known that it bears no dict -/
def rTupN {β : Type} (R : Rdr β) : Rdr (List β) := fun H v xs => ∃ a vs ob, v = .ref a ∧ H a = some (.frz ob (.tup vs)) ∧ ob.dict = none ∧ Paired (R H) vs xs
def rLst {β : Type} (R : Rdr β) : Rdr (List β) := fun H v xs => ∃ a vs, v = .ref a ∧ H a = some (.lst vs) ∧ Paired (R H) vs xs
def rPair {β γ : Type} (R : Rdr β) (S : Rdr γ) : Rdr (β × γ) := fun H v z => ∃ a x y, v = .ref a ∧ H a = some (.tup [x, y]) ∧ R H x z.1 ∧ S H y z.2
def rOpt {β : Type} (R : Rdr β) : Rdr (Option β) := fun H v x => match x with
  | none => v = .non
  | some y => R H v y
def kS (x : Str) : Key := Sum.inr x
def kT (p : List Str) : List Key := p.map kS
def rDic {β : Type} (R : Rdr β) : Rdr (List (Str × β)) := fun H v m => ∃ a kvs, v = .ref a ∧ L2.Rd H a (.dK kvs) ∧ Paired (fun (kv : Key × V) z => (kv.1 = kS z.1 ∧ sOk z.1) ∧ R H kv.2 z.2) kvs m
def rDit {β : Type} (R : Rdr β) : Rdr (List (List Str × β)) := fun H v m => ∃ a kvs, v = .ref a ∧ L2.Rd H a (.dT kvs) ∧ Paired (fun (kv : List Key × V) z => (kv.1 = kT z.1 ∧ ∀ x ∈ z.1, sOk x) ∧ R H kv.2 z.2) kvs m
abbrev rPt : Rdr (List Str) := rTup rStr
abbrev rBody : Rdr (List (List Str)) := rTupR rPt
abbrev rBodyN : Rdr (List (List Str)) := rTupN rPt
theorem rTup.r {β : Type} {R : Rdr β} {H : Hp} {v : V} {x : List β} (h : rTup R H v x) : rTupR R H v x := let ⟨a, vs, e, k, r⟩ := h; ⟨a, vs, e, .inl k, r⟩
theorem rTupN.r {β : Type} {R : Rdr β} {H : Hp} {v : V} {x : List β} (h : rTupN R H v x) : rTupR R H v x := let ⟨a, vs, ob, e, k, _, r⟩ := h; ⟨a, vs, e, .inr ⟨ob, k⟩, r⟩
theorem pmap {α β : Type} {F G : α → β → Prop} : ∀ {l : List α} {m : List β}, Paired F l m → (∀ a b, F a b → G a b) → Paired G l m
  | _, _, .nil, _ => .nil
  | _, _, .cons r t, f => .cons (f _ _ r) (pmap t f)
theorem plen {α β : Type} {F : α → β → Prop} {l : List α} {m : List β} (h : Paired F l m) : l.length = m.length := Paired.length h
theorem pget {α β : Type} {F : α → β → Prop} : ∀ {l : List α} {m : List β} {i : Nat} {a : α}, Paired F l m → l[i]? = some a → ∃ b, m[i]? = some b ∧ F a b
  | _, _, _, _, .nil, e => by simp at e
  | _, _, 0, _, .cons r _, e => by simp at e; subst e; exact ⟨_, rfl, r⟩
  | _, _, i + 1, _, .cons _ t, e => by
    obtain ⟨b, h1, h2⟩ := pget t (by simpa using e)
    exact ⟨b, by simpa using h1, h2⟩
theorem pgetR {α β : Type} {F : α → β → Prop} : ∀ {l : List α} {m : List β} {i : Nat} {b : β}, Paired F l m → m[i]? = some b → ∃ a, l[i]? = some a ∧ F a b
  | _, _, _, _, .nil, e => by simp at e
  | _, _, 0, _, .cons r _, e => by simp at e; subst e; exact ⟨_, rfl, r⟩
  | _, _, i + 1, _, .cons _ t, e => by
    obtain ⟨b, h1, h2⟩ := pgetR t (by simpa using e)
    exact ⟨b, by simpa using h1, h2⟩
theorem papp {α β : Type} {F : α → β → Prop} : ∀ {l l' : List α} {m m' : List β}, Paired F l m → Paired F l' m' → Paired F (l ++ l') (m ++ m')
  | _, _, _, _, .nil, h => h
  | _, _, _, _, .cons r t, h => .cons r (papp t h)
theorem psnoc {α β : Type} {F : α → β → Prop} {l : List α} {m : List β} {a : α} {b : β} (h : Paired F l m) (r : F a b) : Paired F (l ++ [a]) (m ++ [b]) := papp h (.cons r .nil)
theorem prev {α β : Type} {F : α → β → Prop} : ∀ {l : List α} {m : List β}, Paired F l m → Paired F l.reverse m.reverse
  | _, _, .nil => .nil
  | _, _, .cons r t => by rw [List.reverse_cons, List.reverse_cons]; exact psnoc (prev t) r
theorem ptake {α β : Type} {F : α → β → Prop} : ∀ {l : List α} {m : List β} (n : Nat), Paired F l m → Paired F (l.take n) (m.take n)
  | _, _, 0, _ => .nil
  | _, _, _ + 1, .nil => .nil
  | _, _, n + 1, .cons r t => .cons r (ptake n t)
theorem pdrop {α β : Type} {F : α → β → Prop} : ∀ {l : List α} {m : List β} (n : Nat), Paired F l m → Paired F (l.drop n) (m.drop n)
  | _, _, 0, h => h
  | _, _, _ + 1, .nil => .nil
  | _, _, n + 1, .cons _ t => pdrop n t
instance : MoT rStr := ⟨fun _ h => h⟩
instance : MoT rInt := ⟨fun _ h => h⟩
instance {β : Type} {R : Rdr β} [MoT R] : MoT (rTup R) := ⟨fun e ⟨a, vs, h1, h2, h3⟩ => ⟨a, vs, h1, e.t h2, pmap h3 fun _ _ h => upT e h⟩⟩
instance {β : Type} {R : Rdr β} [MoT R] : MoT (rTupR R) := ⟨fun e ⟨a, vs, h1, h2, h3⟩ => ⟨a, vs, h1, e.rd h2, pmap h3 fun _ _ h => upT e h⟩⟩
instance {β : Type} {R : Rdr β} [MoT R] : MoT (rTupN R) := ⟨fun e ⟨a, vs, ob, h1, h2, h4, h3⟩ => ⟨a, vs, ob, h1, e a _ vs (.inr ⟨ob, rfl⟩) h2, h4, pmap h3 fun _ _ h => upT e h⟩⟩
instance {β γ : Type} {R : Rdr β} {S : Rdr γ} [MoT R] [MoT S] : MoT (rPair R S) := ⟨fun e ⟨a, x, y, h1, h2, h3, h4⟩ => ⟨a, x, y, h1, e.t h2, upT e h3, upT e h4⟩⟩
instance : MonoW rStr := ⟨fun _ h => h⟩
instance : MonoW rInt := ⟨fun _ h => h⟩
theorem Exw.tup {H H' : Hp} (e : Exw H H') {a : Addr} {xs : List V} (h : H a = some (.tup xs)) : H' a = some (.tup xs) := e.same a _ (fun z => z) (fun _ _ z => by cases z) h
theorem Exw.lst {H H' : Hp} (e : Exw H H') {a : Addr} {xs : List V} (h : H a = some (.lst xs)) : H' a = some (.lst xs) := e.same a _ (fun z => z) (fun _ _ z => by cases z) h
theorem Exw.ins {H H' : Hp} (e : Exw H H') {a C dx : Addr} {fs : List (Str × V)} (h : H a = some (.ins C dx fs)) : H' a = some (.ins C dx fs) := e.same a _ (fun z => z) (fun _ _ z => by cases z) h
theorem Exw.frt {H H' : Hp} (e : Exw H H') {a : Addr} {ob : Obj} {xs : List V} (h : H a = some (.frz ob (.tup xs))) : H' a = some (.frz ob (.tup xs)) := e.same a _ (fun z => z) (fun _ _ z => by cases z; exact fun z => z) h
theorem Exw.tx {H H' : Hp} (e : Exw H H') : Tx H H' := fun a o xs k h => by
  rcases k with rfl | ⟨ob, rfl⟩
  · exact e.tup h
  · exact e.frt h
theorem Exw.rdt {H H' : Hp} (e : Exw H H') {a : Addr} {xs : List V} (h : L2.Rd H a (.tup xs)) : L2.Rd H' a (.tup xs) := by
  rcases h with h | ⟨ob, h⟩
  · exact .inl (e.tup h)
  · exact .inr ⟨ob, e.frt h⟩
instance {β : Type} {R : Rdr β} [MonoW R] : MonoW (rTupR R) := ⟨fun e ⟨a, vs, h1, h2, h3⟩ => ⟨a, vs, h1, e.rdt h2, pmap h3 fun _ _ h => MonoW.mono e h⟩⟩
instance {β : Type} {R : Rdr β} [MonoW R] : MonoW (rTupN R) := ⟨fun e ⟨a, vs, ob, h1, h2, h4, h3⟩ => ⟨a, vs, ob, h1, e.frt h2, h4, pmap h3 fun _ _ h => MonoW.mono e h⟩⟩
instance {β : Type} {R : Rdr β} [MonoW R] : MonoW (rTup R) := ⟨fun e ⟨a, vs, h1, h2, h3⟩ => ⟨a, vs, h1, e.tup h2, pmap h3 fun _ _ h => MonoW.mono e h⟩⟩
instance {β : Type} {R : Rdr β} [MonoW R] : MonoW (rLst R) := ⟨fun e ⟨a, vs, h1, h2, h3⟩ => ⟨a, vs, h1, e.lst h2, pmap h3 fun _ _ h => MonoW.mono e h⟩⟩
instance {β γ : Type} {R : Rdr β} {S : Rdr γ} [MonoW R] [MonoW S] : MonoW (rPair R S) := ⟨fun e ⟨a, x, y, h1, h2, h3, h4⟩ => ⟨a, x, y, h1, e.tup h2, MonoW.mono e h3, MonoW.mono e h4⟩⟩
instance {β : Type} {R : Rdr β} [MonoW R] : MonoW (rOpt R) := ⟨fun {H H' v x} e h => by cases x with | none => exact h | some y => exact (show R H' v y from MonoW.mono (R := R) e (show R H v y from h))⟩
theorem Exw.dk {H H' : Hp} (e : Exw H H') {a : Addr} {kvs : List (Key × V)} (h : H a = some (.dK kvs)) : H' a = some (.dK kvs) := e.same a _ (fun z => z) (fun _ _ z => by cases z) h
theorem Exw.rdk {H H' : Hp} (e : Exw H H') {a : Addr} {kvs : List (Key × V)} (h : L2.Rd H a (.dK kvs)) : L2.Rd H' a (.dK kvs) := by
  rcases h with h | ⟨ob, h⟩
  · exact .inl (e.dk h)
  · exact .inr ⟨ob, e.same a _ (fun z => z) (fun _ _ z => by cases z; exact fun z => z) h⟩
instance {β : Type} {R : Rdr β} [MonoW R] : MonoW (rDic R) := ⟨fun e ⟨a, kvs, h1, h2, h3⟩ => ⟨a, kvs, h1, e.rdk h2, pmap h3 fun _ _ h => ⟨h.1, MonoW.mono e h.2⟩⟩⟩
/-- the same, not locked -/
def rDicU {β : Type} (R : Rdr β) : Rdr (List (Str × β)) := fun H v m => ∃ a kvs, v = .ref a ∧ H a = some (.dK kvs) ∧ Paired (fun (kv : Key × V) z => (kv.1 = kS z.1 ∧ sOk z.1) ∧ R H kv.2 z.2) kvs m
theorem rDicU.rd {β : Type} {R : Rdr β} {H : Hp} {v : V} {m : List (Str × β)} (h : rDicU R H v m) : rDic R H v m := let ⟨a, kvs, e, k, r⟩ := h; ⟨a, kvs, e, .inl k, r⟩
instance {β : Type} {R : Rdr β} [MonoW R] : MonoW (rDicU R) := ⟨fun e ⟨a, kvs, h1, h2, h3⟩ => ⟨a, kvs, h1, e.dk h2, pmap h3 fun _ _ h => ⟨h.1, MonoW.mono e h.2⟩⟩⟩
instance {β : Type} {R : Rdr β} [MonoW R] : MonoW (rDit R) := ⟨fun e ⟨a, kvs, h1, h2, h3⟩ => ⟨a, kvs, h1, e.dic a _ trivial h2, pmap h3 fun _ _ h => ⟨h.1, MonoW.mono e h.2⟩⟩⟩
/-- a dict with points as keys, not locked -/
def rDitU {β : Type} (R : Rdr β) : Rdr (List (List Str × β)) := fun H v m => ∃ a kvs, v = .ref a ∧ H a = some (.dT kvs) ∧ Paired (fun (kv : List Key × V) z => (kv.1 = kT z.1 ∧ ∀ x ∈ z.1, sOk x) ∧ R H kv.2 z.2) kvs m
theorem rDitU.rd {β : Type} {R : Rdr β} {H : Hp} {v : V} {m : List (List Str × β)} (h : rDitU R H v m) : rDit R H v m := let ⟨a, kvs, e, k, r⟩ := h; ⟨a, kvs, e, .inl k, r⟩
instance {β : Type} {R : Rdr β} [Mono R] : Mono (rDitU R) := ⟨fun e ⟨a, kvs, h1, h2, h3⟩ => ⟨a, kvs, h1, e a _ h2, pmap h3 fun _ _ h => ⟨h.1, up e h.2⟩⟩⟩
instance {β : Type} {R : Rdr β} [Mono R] : Mono (rTup R) := ⟨fun e ⟨a, vs, h1, h2, h3⟩ => ⟨a, vs, h1, e a _ h2, pmap h3 fun _ _ h => up e h⟩⟩
instance {β : Type} {R : Rdr β} [Mono R] : Mono (rTupR R) := ⟨fun e ⟨a, vs, h1, h2, h3⟩ => ⟨a, vs, h1, Evl.ex_rd e h2, pmap h3 fun _ _ h => up e h⟩⟩
instance {β : Type} {R : Rdr β} [Mono R] : Mono (rTupN R) := ⟨fun e ⟨a, vs, ob, h1, h2, h4, h3⟩ => ⟨a, vs, ob, h1, e a _ h2, h4, pmap h3 fun _ _ h => up e h⟩⟩
instance {β : Type} {R : Rdr β} [Mono R] : Mono (rLst R) := ⟨fun e ⟨a, vs, h1, h2, h3⟩ => ⟨a, vs, h1, e a _ h2, pmap h3 fun _ _ h => up e h⟩⟩
instance {β γ : Type} {R : Rdr β} {S : Rdr γ} [Mono R] [Mono S] : Mono (rPair R S) := ⟨fun e ⟨a, x, y, h1, h2, h3, h4⟩ => ⟨a, x, y, h1, e a _ h2, up e h3, up e h4⟩⟩
instance {β : Type} {R : Rdr β} [Mono R] : Mono (rOpt R) := ⟨fun {H H' v x} e h => by cases x with | none => exact h | some y => exact (show R H' v y from up (R := R) e (show R H v y from h))⟩
instance {β : Type} {R : Rdr β} [Mono R] : Mono (rDic R) := ⟨fun e ⟨a, kvs, h1, h2, h3⟩ => ⟨a, kvs, h1, Evl.ex_rd e h2, pmap h3 fun _ _ h => ⟨h.1, up e h.2⟩⟩⟩
instance {β : Type} {R : Rdr β} [Mono R] : Mono (rDicU R) := ⟨fun e ⟨a, kvs, h1, h2, h3⟩ => ⟨a, kvs, h1, e a _ h2, pmap h3 fun _ _ h => ⟨h.1, up e h.2⟩⟩⟩
instance {β : Type} {R : Rdr β} [Mono R] : Mono (rDit R) := ⟨fun e ⟨a, kvs, h1, h2, h3⟩ => ⟨a, kvs, h1, Evl.ex_rd e h2, pmap h3 fun _ _ h => ⟨h.1, up e h.2⟩⟩⟩
theorem rPt_at {H : Hp} {v : V} {p : List Str} (h : rPt H v p) : ∃ b, v = .ref b ∧ H b = some (.tup ((kT p).map kV)) ∧ ∀ x ∈ p, sOk x := by
  obtain ⟨b, vs, rfl, hb, r⟩ := h
  have e : vs = (kT p).map kV ∧ ∀ x ∈ p, sOk x := by
    clear hb
    induction r with
    | nil => exact ⟨rfl, fun x hx => by cases hx⟩
    | @cons a c l m h t ih =>
      refine ⟨?_, fun x hx => ?_⟩
      · rw [h.1, ih.1]; rfl
      · rcases List.mem_cons.mp hx with rfl | hx
        · exact h.2
        · exact ih.2 x hx
  exact ⟨b, rfl, by rw [hb, e.1], e.2⟩
theorem rPt_of {H : Hp} {b : Addr} {p : List Str} (h : H b = some (.tup ((kT p).map kV))) (hp : ∀ x ∈ p, sOk x) : rPt H (.ref b) p := by
  refine ⟨b, _, rfl, h, ?_⟩
  clear h
  induction p with
  | nil => exact .nil
  | cons x p ih => exact .cons ⟨rfl, hp x (by simp)⟩ (ih fun y hy => hp y (by simp [hy]))
theorem kT_inj : ∀ {p q : List Str}, kT p = kT q → p = q
  | [], [], _ => rfl
  | [], _ :: _, h => by cases h
  | _ :: _, [], h => by cases h
  | x :: p, y :: q, h => by
    injection h with h1 h2
    rw [Sum.inr.inj h1, kT_inj h2]

/-! ### what stands at a key -/
theorem dic_at {β : Type} {R : Rdr β} {H : Hp} {kvs : List (Key × V)} {m : List (Str × β)} (h : Paired (fun (kv : Key × V) z => (kv.1 = kS z.1 ∧ sOk z.1) ∧ R H kv.2 z.2) kvs m) (k : Str) :
    match at? m k with
    | none => valV kvs (kS k) = none
    | some x => ∃ v, valV kvs (kS k) = some v ∧ R H v x := by
  induction h with
  | nil => rfl
  | @cons a z l m h t ih =>
    rw [at?_cons]
    by_cases e : z.1 = k
    · rw [if_pos e]
      exact ⟨a.2, valV_pos (by rw [h.1.1, e]), h.2⟩
    · rw [if_neg e]
      have ne : ¬ a.1 = kS k := fun q => e (Sum.inr.inj (h.1.1.symm.trans q))
      rw [valV_neg ne]
      exact ih
theorem dit_at {β : Type} {R : Rdr β} {H : Hp} {kvs : List (List Key × V)} {m : List (List Str × β)} (h : Paired (fun (kv : List Key × V) z => (kv.1 = kT z.1 ∧ ∀ x ∈ z.1, sOk x) ∧ R H kv.2 z.2) kvs m) (k : List Str) :
    match at? m k with
    | none => valV kvs (kT k) = none
    | some x => ∃ v, valV kvs (kT k) = some v ∧ R H v x := by
  induction h with
  | nil => rfl
  | @cons a z l m h t ih =>
    rw [at?_cons]
    by_cases e : z.1 = k
    · rw [if_pos e]
      exact ⟨a.2, valV_pos (by rw [h.1.1, e]), h.2⟩
    · rw [if_neg e]
      have ne : ¬ a.1 = kT k := fun q => e (kT_inj (h.1.1.symm.trans q))
      rw [valV_neg ne]
      exact ih

/-! ### data, for ==, in, repr -/
class Dat {β : Type} [DecidableEq β] (R : Rdr β) where
  enc : β → PyData
  dep : Nat
  dp : ∀ {K : PySem.W.Frag} {H : Hp} {v : V} {x : β}, R H v x → Dp K H v (enc x)
  eqv : ∀ x y, PyData.eqv (enc x) (enc y) = decide (x = y)
  lay : ∀ {H : Hp} {v : V} {x : β}, R H v x → PyData.canLay0 (enc x) = true
  depth : ∀ x, (enc x).depth ≤ dep
theorem Dat.shaped {β : Type} [DecidableEq β] {R : Rdr β} [D : Dat R] (hd : D.dep ≤ 64 := by decide) {H : Hp} {v : V} {x : β} (h : R H v x) : SeqAt.shaped (Dat.enc R x) = true := by
  unfold SeqAt.shaped
  rw [Dat.lay h, Bool.true_and, decide_eq_true_iff]
  exact Nat.le_trans (D.depth x) hd
instance : Dat rStr where
  enc := .str
  dep := 0
  dp := fun h => by rw [h.1]; exact .str _
  eqv := fun x y => by show (x == y) = decide (x = y); rw [Bool.eq_iff_iff]; simp
  lay := fun h => h.2
  depth := fun _ => Nat.le_refl _
instance : Dat rInt where
  enc := .int
  dep := 0
  dp := fun h => by rw [show _ = _ from h]; exact .int _
  eqv := fun x y => by show (x == y) = decide (x = y); rw [Bool.eq_iff_iff]; simp
  lay := fun _ => rfl
  depth := fun _ => Nat.le_refl _
theorem dpAll_of {β : Type} [DecidableEq β] {R : Rdr β} [D : Dat R] {K : PySem.W.Frag} {H : Hp} : ∀ {vs : List V} {xs : List β}, Paired (R H) vs xs → DpAll K H vs (xs.map D.enc)
  | _, _, .nil => .nil
  | _, _, .cons r t => .cons (D.dp r) (dpAll_of t)
theorem eqvAll_of {β : Type} [DecidableEq β] {R : Rdr β} [D : Dat R] : ∀ (xs ys : List β), PyData.eqvAll (xs.map D.enc) (ys.map D.enc) = decide (xs = ys)
  | [], [] => rfl
  | [], _ :: _ => rfl
  | _ :: _, [] => rfl
  | x :: xs, y :: ys => by
    show (PyData.eqv _ _ && PyData.eqvAll (xs.map D.enc) (ys.map D.enc)) = _
    rw [D.eqv, eqvAll_of xs ys, Bool.eq_iff_iff]
    simp
theorem layAll_of {β : Type} [DecidableEq β] {R : Rdr β} [D : Dat R] {H : Hp} : ∀ {vs : List V} {xs : List β}, Paired (R H) vs xs → PyData.canLayAll0 (xs.map D.enc) = true
  | _, _, .nil => rfl
  | _, _, .cons r t => by
    show (PyData.canLay0 _ && PyData.canLayAll0 _) = true
    rw [D.lay r, layAll_of t]
    rfl
theorem depthAll_of {β : Type} [DecidableEq β] {R : Rdr β} [D : Dat R] : ∀ (xs : List β), PyData.depthAll (xs.map D.enc) ≤ D.dep
  | [] => Nat.zero_le _
  | x :: xs => Nat.max_le.mpr ⟨D.depth x, depthAll_of xs⟩
instance {β : Type} [DecidableEq β] {R : Rdr β} [D : Dat R] : Dat (rTup R) where
  enc := fun xs => .tuple (xs.map D.enc)
  dep := D.dep + 1
  dp := fun ⟨a, vs, h1, h2, h3⟩ => by rw [h1]; exact .tup (.inl (.inl h2)) (dpAll_of h3)
  eqv := fun x y => eqvAll_of x y
  lay := fun ⟨a, vs, h1, h2, h3⟩ => layAll_of h3
  depth := fun xs => Nat.succ_le_succ (depthAll_of xs)
instance {β : Type} [DecidableEq β] {R : Rdr β} [D : Dat R] : Dat (rTupR R) where
  enc := fun xs => .tuple (xs.map D.enc)
  dep := D.dep + 1
  dp := fun ⟨a, vs, h1, h2, h3⟩ => by rw [h1]; exact .tup (.inl h2) (dpAll_of h3)
  eqv := fun x y => eqvAll_of x y
  lay := fun ⟨a, vs, h1, h2, h3⟩ => layAll_of h3
  depth := fun xs => Nat.succ_le_succ (depthAll_of xs)
instance {β : Type} [DecidableEq β] {R : Rdr β} [D : Dat R] : Dat (rLst R) where
  enc := fun xs => .list (xs.map D.enc)
  dep := D.dep + 1
  dp := fun ⟨a, vs, h1, h2, h3⟩ => by rw [h1]; exact .lst (.inl (.inl h2)) (dpAll_of h3)
  eqv := fun x y => eqvAll_of x y
  lay := fun ⟨a, vs, h1, h2, h3⟩ => layAll_of h3
  depth := fun xs => Nat.succ_le_succ (depthAll_of xs)
end FM

/-! ## FEv -/
set_option Elab.async false
set_option linter.all false
set_option maxRecDepth 100000
set_option maxHeartbeats 2000000
/-! What expressions come to: a value, a value of which something holds; statements behind. -/
namespace FM
open PySem PySem.Spec PyProof.Rows L2
open Evl (Ex EvT Ev)

/-- te comes to a value of which P holds (the heap ahead, the value, the heap behind); nothing that stood is changed -/
def EvP (te : TE) (σ : L2.St) (H : Hp) (P : Hp → V → Hp → Prop) : Prop := ∀ H1, Ex H H1 → ∀ Q : VK, (∀ v H2, Ex H1 H2 → P H1 v H2 → Q v H2) → te σ H1 Q
def EvAs (ta : TA) (σ : L2.St) (H : Hp) (P : List V → Hp → Prop) : Prop := ∀ H1, Ex H H1 → ∀ Q : List V → Hp → Prop, (∀ vs H2, Ex H1 H2 → P vs H2 → Q vs H2) → ta σ H1 Q
/-- a value that stands for x; the same, a new object -/
def is {β : Type} (R : Rdr β) (x : β) : Hp → V → Hp → Prop := fun _ v H2 => R H2 v x
def nw {β : Type} (R : Rdr β) (x : β) : Hp → V → Hp → Prop := fun H1 v H2 => ∃ a, v = .ref a ∧ H1 a = none ∧ R H2 (.ref a) x
/-- one that is not told -/
def some_ {β : Type} (R : Rdr β) (S : β → Prop) : Hp → V → Hp → Prop := fun _ v H2 => ∃ x, S x ∧ R H2 v x
def someN {β : Type} (R : Rdr β) (S : β → Prop) : Hp → V → Hp → Prop := fun H1 v H2 => ∃ a x, v = .ref a ∧ H1 a = none ∧ S x ∧ R H2 (.ref a) x

section
variable {K : PySem.W.Frag} {σ : L2.St} {H H' : Hp} {te ta tb : TE} {tt : TT} {P P' : Hp → V → Hp → Prop} {v : V} {β γ : Type} {R : Rdr β} {S : Rdr γ} {x : β}
theorem EvP.up (e : Ex H H') (h : EvP te σ H P) : EvP te σ H' P := fun H1 a Q q => h H1 (e.trans a) Q q
theorem EvP.imp (h : EvP te σ H P) (k : ∀ H1 v H2, Ex H H1 → Ex H1 H2 → P H1 v H2 → P' H1 v H2) : EvP te σ H P' := fun H1 a Q q => h H1 a Q fun v H2 e p => q v H2 e (k H1 v H2 a e p)
theorem EvP.of_nw (h : EvP te σ H (nw R x)) : EvP te σ H (is R x) := h.imp fun _ _ _ _ _ ⟨a, e, _, r⟩ => by subst e; exact r
theorem EvP.of_ev (h : Ev te σ H v) (hp : ∀ H1 H2, Ex H H1 → Ex H1 H2 → P H1 v H2) : EvP te σ H P := fun H1 a Q q => h H1 a Q fun H2 e => q v H2 e (hp H1 H2 a e)
theorem EvP.ev {f : V} (h : EvP te σ H (fun _ v _ => v = f)) : Ev te σ H f := fun H1 a Q q => h H1 a Q fun v H2 e p => by subst p; exact q H2 e
theorem ev_is [Mono R] (h : Ev te σ H v) (r : R H v x) : EvP te σ H (is R x) := .of_ev h fun _ _ a e => FM.up (R := R) (a.trans e) r
theorem var [Mono R] {i : Nat} (h : σ[i]? = some (some v)) (r : R H v x) : EvP (tVar i) σ H (is R x) := ev_is (Evl.ev_var h) r
theorem glob [Mono R] (r : R H v x) : EvP (tC v) σ H (is R x) := ev_is Evl.ev_c r
theorem const {s : Str} (h : sOk s) : EvP (tC (.str s)) σ H (is rStr s) := .of_ev Evl.ev_c fun _ _ _ _ => ⟨rfl, h⟩
theorem EvP.tr {x : List β} (h : EvP te σ H (is (rTup R) x)) : EvP te σ H (is (rTupR R) x) := h.imp fun _ _ _ _ _ r => rTup.r r
theorem EvP.tn {x : List β} (h : EvP te σ H (is (rTupN R) x)) : EvP te σ H (is (rTupR R) x) := h.imp fun _ _ _ _ _ r => rTupN.r r
theorem strV {s : Str} (h : EvP te σ H (is rStr s)) : Ev te σ H (.str s) := (h.imp fun _ v _ _ _ (r : v = .str s ∧ sOk s) => r.1).ev

/-! arguments -/
theorem EvAs.nil : EvAs tNil σ H (fun vs _ => vs = []) := fun H1 _ Q q => q [] H1 (Ex.refl _) rfl
theorem EvAs.cons [Mono R] {tr : TA} {Pr : List V → Hp → Prop} (h : EvP te σ H (is R x)) (hr : EvAs tr σ H Pr) : EvAs (tCons te tr) σ H (fun vs H2 => ∃ v r, vs = v :: r ∧ R H2 v x ∧ Pr r H2) := fun H1 a Q q =>
  h H1 a _ fun v H2 e r => hr H2 (a.trans e) _ fun vs H3 e3 p => q _ H3 (e.trans e3) ⟨v, vs, rfl, FM.up e3 r, p⟩
theorem EvAs.consV {tr : TA} {Pr : List V → Hp → Prop} (h : Ev te σ H v) (hr : EvAs tr σ H Pr) : EvAs (tCons te tr) σ H (fun vs H2 => ∃ r, vs = v :: r ∧ Pr r H2) := fun H1 a Q q =>
  h H1 a _ fun H2 e => hr H2 (a.trans e) _ fun vs H3 e3 p => q _ H3 (e.trans e3) ⟨vs, rfl, p⟩
theorem EvAs.imp {tr : TA} {Pr Pr' : List V → Hp → Prop} (h : EvAs tr σ H Pr) (k : ∀ vs H1, Ex H H1 → Pr vs H1 → Pr' vs H1) : EvAs tr σ H Pr' := fun H1 a Q q => h H1 a Q fun vs H2 e p => q vs H2 e (k vs H2 (a.trans e) p)
/-- a promise: what is asked of the arguments, what is said of the answer -/
def spOf {ι : Type} (A : ι → List V → Hp → Prop) (P : ι → Hp → V → Hp → Prop) : Sp := fun vs H Q _ => ∃ i, A i vs H ∧ ∀ v H', Ex H H' → P i H v H' → Q v H'
theorem call {ι : Type} {A : ι → List V → Hp → Prop} {P : ι → Hp → V → Hp → Prop} {E : XK} {tr : TA} (i : ι) (h : EvAs tr σ H (A i)) : EvP (tCall (spOf A P) [] E tr) σ H (fun H1 v H2 => ∃ Hm, Ex H1 Hm ∧ P i Hm v H2) := fun H1 a Q q =>
  h H1 a _ fun vs H2 e p => ⟨i, by rw [List.append_nil]; exact p, fun v H3 e3 r => q v H3 (e.trans e3) ⟨H2, e, r⟩⟩
theorem call_is {ι : Type} {A : ι → List V → Hp → Prop} {P : ι → Hp → V → Hp → Prop} {E : XK} {tr : TA} (i : ι) (h : EvAs tr σ H (A i)) (hp : ∀ H1 v H2, P i H1 v H2 → is R x H1 v H2) : EvP (tCall (spOf A P) [] E tr) σ H (is R x) :=
  (call i h).imp fun _ v H2 _ _ ⟨Hm, _, p⟩ => hp Hm v H2 p
theorem call_nw {ι : Type} {A : ι → List V → Hp → Prop} {P : ι → Hp → V → Hp → Prop} {E : XK} {tr : TA} (i : ι) (h : EvAs tr σ H (A i)) (hp : ∀ H1 v H2, P i H1 v H2 → nw R x H1 v H2) : EvP (tCall (spOf A P) [] E tr) σ H (nw R x) :=
  (call i h).imp fun H1 v H2 _ _ ⟨Hm, e, p⟩ => by
    obtain ⟨a, e1, e2, r⟩ := hp Hm v H2 p
    exact ⟨a, e1, Evl.fresh_back e e2, r⟩
theorem call_ev {ι : Type} {A : ι → List V → Hp → Prop} {P : ι → Hp → V → Hp → Prop} {E : XK} {tr : TA} (i : ι) (h : EvAs tr σ H (A i)) (hp : ∀ H1 w H2, P i H1 w H2 → w = v) : Ev (tCall (spOf A P) [] E tr) σ H v :=
  ((call i h).imp fun _ w H2 _ _ ⟨Hm, _, p⟩ => hp Hm w H2 p).ev

/-! statements -/
variable {D : Ends} {tu tz tw : TS}
theorem r_ret (h : EvP te σ H P) (k : ∀ v H1, Ex H H1 → P H v H1 → D.rt v H1) : tRet te D σ H := h H (Ex.refl _) _ k
theorem r_retV (h : Ev te σ H v) (k : ∀ H1, Ex H H1 → D.rt v H1) : tRet te D σ H := h H (Ex.refl _) _ k
theorem r_set {i : Nat} (h : EvP te σ H P) (k : ∀ v H1, Ex H H1 → P H v H1 → tz D (σ.set i (some v)) H1) : tSeq (tAsg te (gName i)) tz D σ H := h H (Ex.refl _) _ k
theorem r_setV {i : Nat} (h : Ev te σ H v) (k : ∀ H1, Ex H H1 → tz D (σ.set i (some v)) H1) : tSeq (tAsg te (gName i)) tz D σ H := h H (Ex.refl _) _ k
theorem r_if {b : Bool} (h : EvT tt σ H b) (h1 : b = true → ∀ H1, Ex H H1 → tu { D with nx := tz D } σ H1) (h2 : b = false → ∀ H1, Ex H H1 → tw { D with nx := tz D } σ H1) : tSeq (tIfS tt tu tw) tz D σ H := Evl.s_if (D := { D with nx := tz D }) h h1 h2
/-- an if that is not taken -/
theorem r_not (h : EvT tt σ H false) (k : ∀ H1, Ex H H1 → tz D σ H1) : tSeq (tIfS tt tu tNext) tz D σ H := Evl.s_if (D := { D with nx := tz D }) h (fun q => by cases q) fun _ => k
theorem r_notL (h : EvT tt σ H false) (k : ∀ H1, Ex H H1 → D.nx σ H1) : tIfS tt tu tNext D σ H := Evl.s_if h (fun q => by cases q) fun _ => k

/-! equality and membership of data -/
theorem eqD [DecidableEq β] [Mono R] [Dt : Dat R] {x y : β} (hd : Dt.dep ≤ 64) (ha : EvP ta σ H (is R x)) (hb : EvP tb σ H (is R y)) : Ev (tOp (rEqD K) ta tb) σ H (.bl (decide (x = y))) := fun H1 e Q q =>
  ha H1 e _ fun u H2 e2 r => hb H2 (e.trans e2) _ fun w H3 e3 r2 => ⟨_, _, Dt.dp (FM.up e3 r), Dt.dp r2, Dat.shaped hd (FM.up e3 r), Dat.shaped hd r2, by
    rw [Dt.eqv]; exact q H3 (e2.trans e3)⟩
theorem neD [DecidableEq β] [Mono R] [Dt : Dat R] {x y : β} (hd : Dt.dep ≤ 64) (ha : EvP ta σ H (is R x)) (hb : EvP tb σ H (is R y)) : Ev (tOp (rNeD K) ta tb) σ H (.bl (!decide (x = y))) := fun H1 e Q q =>
  ha H1 e _ fun u H2 e2 r => hb H2 (e.trans e2) _ fun w H3 e3 r2 => ⟨_, _, Dt.dp (FM.up e3 r), Dt.dp r2, Dat.shaped hd (FM.up e3 r), Dat.shaped hd r2, by
    rw [Dt.eqv]; exact q H3 (e2.trans e3)⟩
theorem eqS {x y : Str} (ha : EvP ta σ H (is rStr x)) (hb : EvP tb σ H (is rStr y)) : Ev (tOp rEq ta tb) σ H (.bl (decide (x = y))) := fun H1 e Q q =>
  strV ha H1 e _ fun H2 e2 => strV hb H2 (e.trans e2) _ fun H3 e3 => ⟨rfl, by
    have : decide (V.str x = V.str y) = decide (x = y) := by rw [Bool.eq_iff_iff]; simp
    rw [this]; exact q H3 (e2.trans e3)⟩
theorem any_enc [DecidableEq β] [Dt : Dat R] (xs : List β) (x : β) : ((xs.map Dt.enc).any fun z => PyData.eqv z (Dt.enc x)) = isIn x xs := by
  induction xs with
  | nil => rfl
  | cons y xs ih => rw [List.map_cons, List.any_cons, ih, Dt.eqv, isIn_cons]
theorem inD [DecidableEq β] [Mono R] [Dt : Dat R] {x : β} {xs : List β} (hd : Dt.dep + 1 ≤ 64) (ha : EvP ta σ H (is R x)) (hb : EvP tb σ H (is (rLst R) xs)) : Ev (tOp (rInD K) ta tb) σ H (.bl (isIn x xs)) := fun H1 e Q q =>
  ha H1 e _ fun u H2 e2 r => hb H2 (e.trans e2) _ fun w H3 e3 r2 => ⟨_, xs.map Dt.enc, Dt.dp (FM.up e3 r), Dat.dp (R := rLst R) r2, Dat.shaped (Nat.le_of_succ_le hd) (FM.up e3 r), Dat.shaped (R := rLst R) hd r2, by
    rw [any_enc]; exact q H3 (e2.trans e3)⟩
theorem notInD [DecidableEq β] [Mono R] [Dt : Dat R] {x : β} {xs : List β} (hd : Dt.dep + 1 ≤ 64) (ha : EvP ta σ H (is R x)) (hb : EvP tb σ H (is (rLst R) xs)) : Ev (tOp (rNotInD K) ta tb) σ H (.bl (!isIn x xs)) := fun H1 e Q q =>
  ha H1 e _ fun u H2 e2 r => hb H2 (e.trans e2) _ fun w H3 e3 r2 => ⟨_, xs.map Dt.enc, Dt.dp (FM.up e3 r), Dat.dp (R := rLst R) r2, Dat.shaped (Nat.le_of_succ_le hd) (FM.up e3 r), Dat.shaped (R := rLst R) hd r2, by
    rw [any_enc]; exact q H3 (e2.trans e3)⟩

/-! dicts -/
theorem getS [Mono R] {m : List (Str × β)} {k : Str} {x : β} (hd : EvP ta σ H (is (rDic R) m)) (hk : EvP tb σ H (is rStr k)) (h : at? m k = some x) : EvP (tDGet ta tb) σ H (is R x) := fun H1 e Q q =>
  hd H1 e _ fun u H2 e2 r => hk H2 (e.trans e2) _ fun w H3 e3 r2 => by
    obtain ⟨a, kvs, rfl, hr, hp⟩ := FM.up (R := rDic R) e3 r
    obtain ⟨rfl, _⟩ := r2
    have z := dic_at hp k
    rw [h] at z
    obtain ⟨v, z1, z2⟩ := z
    exact ⟨a, v, rfl, .inl ⟨kvs, kS k, hr, rfl, z1.symm⟩, q v H3 (e2.trans e3) z2⟩
theorem getT [Mono R] {m : List (List Str × β)} {k : List Str} {x : β} (hd : EvP ta σ H (is (rDit R) m)) (hk : EvP tb σ H (is rPt k)) (h : at? m k = some x) : EvP (tDGet ta tb) σ H (is R x) := fun H1 e Q q =>
  hd H1 e _ fun u H2 e2 r => hk H2 (e.trans e2) _ fun w H3 e3 r2 => by
    obtain ⟨a, kvs, rfl, hr, hp⟩ := FM.up (R := rDit R) e3 r
    obtain ⟨b, rfl, hb, _⟩ := rPt_at r2
    have z := dit_at hp k
    rw [h] at z
    obtain ⟨v, z1, z2⟩ := z
    exact ⟨a, v, rfl, .inr ⟨kvs, kT k, b, hr, rfl, hb, z1.symm⟩, q v H3 (e2.trans e3) z2⟩
theorem at?_mem_iff {κ υ : Type} [DecidableEq κ] {m : List (κ × υ)} {k : κ} : (at? m k).isSome = isIn k (m.map (·.1)) := by
  by_cases h : k ∈ m.map (·.1)
  · obtain ⟨v, e, _⟩ := at?_some h
    rw [e, isIn_iff.mpr h]; rfl
  · rw [at?_none h, isIn_not.mpr h]; rfl
theorem inS [Mono R] {m : List (Str × β)} {k : Str} (hk : EvP tb σ H (is rStr k)) (hd : EvP ta σ H (is (rDic R) m)) : Ev (tDIn tb ta) σ H (.bl (isIn k (m.map (·.1)))) := fun H1 e Q q =>
  hk H1 e _ fun w H2 e2 r2 => hd H2 (e.trans e2) _ fun u H3 e3 r => by
    obtain ⟨a, kvs, rfl, hr, hp⟩ := r
    obtain ⟨rfl, _⟩ := r2
    refine ⟨a, valV kvs (kS k), rfl, .inl ⟨kvs, kS k, hr, rfl, rfl⟩, ?_⟩
    have e4 : (valV kvs (kS k)).isSome = (at? m k).isSome := by
      have z := dic_at hp k
      cases q : at? m k with
      | none => rw [q] at z; rw [z]; rfl
      | some x => rw [q] at z; obtain ⟨v, z, _⟩ := z; rw [z]; rfl
    rw [e4, at?_mem_iff]
    exact q H3 (e2.trans e3)
theorem notInS [Mono R] {m : List (Str × β)} {k : Str} (hk : EvP tb σ H (is rStr k)) (hd : EvP ta σ H (is (rDic R) m)) : Ev (tDNotIn tb ta) σ H (.bl (!isIn k (m.map (·.1)))) := fun H1 e Q q =>
  hk H1 e _ fun w H2 e2 r2 => hd H2 (e.trans e2) _ fun u H3 e3 r => by
    obtain ⟨a, kvs, rfl, hr, hp⟩ := r
    obtain ⟨rfl, _⟩ := r2
    refine ⟨a, valV kvs (kS k), rfl, .inl ⟨kvs, kS k, hr, rfl, rfl⟩, ?_⟩
    have e4 : (valV kvs (kS k)).isSome = (at? m k).isSome := by
      have z := dic_at hp k
      cases q : at? m k with
      | none => rw [q] at z; rw [z]; rfl
      | some x => rw [q] at z; obtain ⟨v, z, _⟩ := z; rw [z]; rfl
    rw [e4, at?_mem_iff]
    exact q H3 (e2.trans e3)
theorem inT [Mono R] {m : List (List Str × β)} {k : List Str} (hk : EvP tb σ H (is rPt k)) (hd : EvP ta σ H (is (rDit R) m)) : Ev (tDIn tb ta) σ H (.bl (isIn k (m.map (·.1)))) := fun H1 e Q q =>
  hk H1 e _ fun w H2 e2 r2 => hd H2 (e.trans e2) _ fun u H3 e3 r => by
    obtain ⟨a, kvs, rfl, hr, hp⟩ := r
    obtain ⟨b, rfl, hb, _⟩ := rPt_at (FM.up e3 r2)
    refine ⟨a, valV kvs (kT k), rfl, .inr ⟨kvs, kT k, b, hr, rfl, hb, rfl⟩, ?_⟩
    have e4 : (valV kvs (kT k)).isSome = (at? m k).isSome := by
      have z := dit_at hp k
      cases q : at? m k with
      | none => rw [q] at z; rw [z]; rfl
      | some x => rw [q] at z; obtain ⟨v, z, _⟩ := z; rw [z]; rfl
    rw [e4, at?_mem_iff]
    exact q H3 (e2.trans e3)
/-! flat membership in lists of texts -/
theorem strs_of {H : Hp} {vs : List V} {xs : List Str} (h : Paired (rStr H) vs xs) : vs = xs.map V.str := by
  induction h with
  | nil => rfl
  | cons r t ih => rw [r.1, ih]; rfl
theorem inV_strs (x : Str) (xs : List Str) : inV (.str x) (xs.map V.str) = isIn x xs := by
  induction xs with
  | nil => rfl
  | cons y xs ih =>
    have e : inV (.str x) ((y :: xs).map V.str) = (eqV (.str y) (.str x) || inV (.str x) (xs.map V.str)) := rfl
    have e2 : eqV (.str y) (.str x) = decide (y = x) := by
      show (y == x) = _
      rw [Bool.eq_iff_iff, beq_iff_eq, decide_eq_true_iff]
    rw [e, ih, e2, isIn_cons]
theorem flat_strs : ∀ xs : List Str, (xs.map V.str).all flatV = true
  | [] => rfl
  | y :: xs => by
    show (flatV (.str y) && (xs.map V.str).all flatV) = true
    rw [flat_strs xs]
    rfl
theorem inL {K : PySem.W.Frag} {σ : L2.St} {H : Hp} {ta tb : TE} {x : Str} {xs : List Str} (ha : EvP ta σ H (is rStr x)) (hb : EvP tb σ H (is (rLst rStr) xs)) : Ev (tOp (rIn K false) ta tb) σ H (.bl (isIn x xs)) := fun H1 e Q q =>
  strV ha H1 e _ fun H2 e2 => hb H2 (e.trans e2) _ fun w H3 e3 ⟨a, vs, ew, hv, r⟩ => by
    subst ew
    refine ⟨a, vs, rfl, .inl (.inl (.inl hv)), rfl, by rw [strs_of r]; exact flat_strs xs, ?_⟩
    rw [strs_of r]
    show Q (.bl (inV (.str x) (xs.map V.str))) H3
    rw [inV_strs]
    exact q H3 (e2.trans e3)
theorem notInL {K : PySem.W.Frag} {σ : L2.St} {H : Hp} {ta tb : TE} {x : Str} {xs : List Str} (ha : EvP ta σ H (is rStr x)) (hb : EvP tb σ H (is (rLst rStr) xs)) : Ev (tOp (rIn K true) ta tb) σ H (.bl (!isIn x xs)) := fun H1 e Q q =>
  strV ha H1 e _ fun H2 e2 => hb H2 (e.trans e2) _ fun w H3 e3 ⟨a, vs, ew, hv, r⟩ => by
    subst ew
    refine ⟨a, vs, rfl, .inl (.inl (.inl hv)), rfl, by rw [strs_of r]; exact flat_strs xs, ?_⟩
    rw [strs_of r]
    show Q (.bl (!inV (.str x) (xs.map V.str))) H3
    rw [inV_strs]
    exact q H3 (e2.trans e3)
theorem inTup {K : PySem.W.Frag} {σ : L2.St} {H : Hp} {ta tb : TE} {x : Str} {xs : List Str} (ha : EvP ta σ H (is rStr x)) (hb : EvP tb σ H (is (rTupR rStr) xs)) : Ev (tOp (rIn K false) ta tb) σ H (.bl (isIn x xs)) := fun H1 e Q q =>
  strV ha H1 e _ fun H2 e2 => hb H2 (e.trans e2) _ fun w H3 e3 ⟨a, vs, ew, hv, r⟩ => by
    subst ew
    refine ⟨a, vs, rfl, .inr (.inl hv), rfl, by rw [strs_of r]; exact flat_strs xs, ?_⟩
    rw [strs_of r]
    show Q (.bl (inV (.str x) (xs.map V.str))) H3
    rw [inV_strs]
    exact q H3 (e2.trans e3)
end
end FM

/-! ## FIt -/
set_option Elab.async false
set_option linter.all false
set_option maxRecDepth 100000
set_option maxHeartbeats 2000000
/-! What is walked, and list comprehensions over it. -/
namespace FM
open PySem PySem.Spec PyProof.Rows L2
open Evl (Ex EvT Ev)

/-- n turns, at turn i a value of which Y i holds, as long as the heap grows from H0 -/
structure Wk (J : It) (H0 : Hp) (n : Nat) (Y : Nat → V → Hp → Prop) : Prop where
  go : ∀ i H, i < n → Ex H0 H → J.go i H
  yld : ∀ i H x H', i < n → Ex H0 H → J.yld i H x H' → Ex H H' ∧ Y i x H'
  stop : ∀ H, Ex H0 H → J.stop n H
def EvI (wi : TI) (σ : L2.St) (H : Hp) (n : Nat) (Y : Nat → V → Hp → Prop) : Prop := ∀ H1, Ex H H1 → ∀ R : It → Hp → Prop, (∀ J H2, Ex H1 H2 → Wk J H2 n Y → R J H2) → wi σ H1 R
/-- the i-th of these -/
def ith {β : Type} (R : Rdr β) (xs : List β) : Nat → V → Hp → Prop := fun i v H => ∃ x, xs[i]? = some x ∧ R H v x
section
variable {K : PySem.W.Frag} {σ : L2.St} {H H' : Hp} {te tl ta : TE} {β γ : Type} {R : Rdr β} {S : Rdr γ} {xs : List β}
theorem i_list [Mono R] (h : EvP tl σ H (is (rLst R) xs)) : EvI (iList K tl) σ H xs.length (ith R xs) := fun H1 e Q q =>
  h H1 e _ fun v H2 e2 ⟨a, vs, ev, hv, r⟩ => by
    subst ev
    refine ⟨a, rfl, ⟨vs, .inl (.inl hv)⟩, q _ H2 e2 ⟨fun i H3 hi e3 => ?_, fun i H3 x H4 hi e3 y => ?_, fun H3 e3 => ?_⟩⟩
    · have hl : i < vs.length := by rw [plen r]; exact hi
      exact ⟨vs, vs[i], .inl (.inl (e3 a _ hv)), List.getElem?_eq_getElem hl⟩
    · obtain ⟨rfl, y⟩ := y
      obtain ⟨b, hb, rb⟩ := pget r (y vs (.inl (.inl (e3 a _ hv))))
      exact ⟨Ex.refl _, b, hb, up e3 rb⟩
    · exact ⟨vs, .inl (.inl (e3 a _ hv)), Nat.le_of_eq (plen r)⟩
theorem i_tup [Mono R] (h : EvP tl σ H (is (rTupR R) xs)) : EvI (iTup K tl) σ H xs.length (ith R xs) := fun H1 e Q q =>
  h H1 e _ fun v H2 e2 ⟨a, vs, ev, hv, r⟩ => by
    subst ev
    refine ⟨a, rfl, ⟨vs, .inl hv⟩, q _ H2 e2 ⟨fun i H3 hi e3 => ?_, fun i H3 x H4 hi e3 y => ?_, fun H3 e3 => ?_⟩⟩
    · have hl : i < vs.length := by rw [plen r]; exact hi
      exact ⟨vs, vs[i], .inl (Evl.ex_rd e3 hv), List.getElem?_eq_getElem hl⟩
    · obtain ⟨rfl, y⟩ := y
      obtain ⟨b, hb, rb⟩ := pget r (y vs (.inl (Evl.ex_rd e3 hv)))
      exact ⟨Ex.refl _, b, hb, up e3 rb⟩
    · exact ⟨vs, .inl (Evl.ex_rd e3 hv), Nat.le_of_eq (plen r)⟩
/-- the signs of a text -/
def signs (s : Str) : List Str := s.cps.toList.map fun c => ⟨#[c]⟩
theorem i_str {s : Str} (h : Ev te σ H (.str s)) : EvI (iStr te) σ H s.cps.size (fun i v _ => ∃ c, s.cps[i]? = some c ∧ v = .str ⟨#[c]⟩) := fun H1 e Q q =>
  h H1 e _ fun H2 e2 => ⟨s, rfl, q _ H2 e2 ⟨fun i H3 hi e3 => hi, fun i H3 x H4 hi e3 ⟨eh, c, hc, ex⟩ => ⟨by rw [eh]; exact Ex.refl _, c, hc, ex⟩, fun H3 e3 => Nat.le_refl _⟩⟩
theorem i_range {n : Int} (h : Ev ta σ H (.int n)) (h0 : 0 ≤ n) (h1 : n ≤ 1000000) : EvI (iRng1 (tCons ta tNil)) σ H n.toNat (fun i v _ => v = .int (i : Nat)) := fun H1 e Q q =>
  h H1 e _ fun H2 e2 => ⟨n, rfl, by omega, by omega, q _ H2 e2 ⟨fun i H3 hi e3 => hi, fun i H3 x H4 hi e3 ⟨eh, ex⟩ => ⟨by rw [eh]; exact Ex.refl _, by rw [ex, Int.zero_add]⟩, fun H3 e3 => Nat.le_refl _⟩⟩
/-- the keys of a locked dict -/
theorem i_keysT {kvs : List (List Key × V)} {m : List (List Str × β)} {d : Addr} {o : Obj} (h : Ev te σ H (.ref d)) (hd : H d = some (.frz o (.dT kvs))) (r : Paired (fun (kv : List Key × V) z => (kv.1 = kT z.1 ∧ ∀ x ∈ z.1, sOk x) ∧ R H kv.2 z.2) kvs m) :
    EvI (iKeys te) σ H m.length (ith rPt (m.map (·.1))) := fun H1 e Q q =>
  h H1 e _ fun H2 e2 => by
    have hd2 := (e.trans e2) d _ hd
    refine ⟨d, o, rfl, .inr ⟨kvs, hd2, q _ H2 e2 ⟨fun i H3 hi e3 => ⟨e3 d _ hd2, by rw [plen r]; exact hi⟩, fun i H3 x H4 hi e3 y => ?_, fun H3 e3 => ⟨e3 d _ hd2, Nat.le_of_eq (plen r)⟩⟩⟩⟩
    obtain ⟨rfl, k, v, b, hk, rfl, hb⟩ := y
    obtain ⟨z, hz, ⟨e1, e4⟩, _⟩ := pget r hk
    have e1 : k = kT z.1 := e1
    subst e1
    exact ⟨Ex.refl _, z.1, by rw [List.getElem?_map, hz]; rfl, rPt_of hb e4⟩
theorem i_keysS {kvs : List (Key × V)} {m : List (Str × β)} {d : Addr} {o : Obj} (h : Ev te σ H (.ref d)) (hd : H d = some (.frz o (.dK kvs))) (r : Paired (fun (kv : Key × V) z => (kv.1 = kS z.1 ∧ sOk z.1) ∧ R H kv.2 z.2) kvs m) :
    EvI (iKeys te) σ H m.length (ith rStr (m.map (·.1))) := fun H1 e Q q =>
  h H1 e _ fun H2 e2 => by
    have hd2 := (e.trans e2) d _ hd
    refine ⟨d, o, rfl, .inl ⟨kvs, hd2, q _ H2 e2 ⟨fun i H3 hi e3 => ⟨e3 d _ hd2, by rw [plen r]; exact hi⟩, fun i H3 x H4 hi e3 y => ?_, fun H3 e3 => ⟨e3 d _ hd2, Nat.le_of_eq (plen r)⟩⟩⟩⟩
    obtain ⟨rfl, k, v, hk, rfl⟩ := y
    obtain ⟨z, hz, ⟨e1, e4⟩, _⟩ := pget r hk
    have e1 : k = kS z.1 := e1
    subst e1
    exact ⟨Ex.refl _, z.1, by rw [List.getElem?_map, hz]; rfl, rfl, e4⟩
theorem i_itemsS [Mono R] {kvs : List (Key × V)} {m : List (Str × β)} {d : Addr} {o : Obj} (h : Ev te σ H (.ref d)) (hd : H d = some (.frz o (.dK kvs))) (r : Paired (fun (kv : Key × V) z => (kv.1 = kS z.1 ∧ sOk z.1) ∧ R H kv.2 z.2) kvs m) :
    EvI (iItems te) σ H m.length (ith (rPair rStr R) m) := fun H1 e Q q =>
  h H1 e _ fun H2 e2 => by
    have hd2 := (e.trans e2) d _ hd
    refine ⟨d, o, kvs, rfl, hd2, q _ H2 e2 ⟨fun i H3 hi e3 => ⟨e3 d _ hd2, by rw [plen r]; exact hi⟩, fun i H3 x H4 hi e3 y => ?_, fun H3 e3 => ⟨e3 d _ hd2, Nat.le_of_eq (plen r)⟩⟩⟩
    obtain ⟨T, k, v, hk, rfl, hT, rfl⟩ := y
    obtain ⟨z, hz, ⟨e1, e4⟩, rz⟩ := pget r hk
    have e1 : k = kS z.1 := e1
    subst e1
    have ee : Ex H (upd H3 T (.tup [kV (kS z.1), v])) := ((e.trans e2).trans e3).trans (Ex.new hT)
    exact ⟨Ex.new hT, z, hz, T, _, _, rfl, upd_same, ⟨rfl, e4⟩, up ee rz⟩
/-- the pairs of two tuples of one length -/
theorem i_zip [Mono R] [Mono S] {ys : List γ} (h : EvAs (tCons ta (tCons te tNil)) σ H (fun vs H2 => ∃ v w, vs = [v, w] ∧ rTup R H2 v xs ∧ rTup S H2 w ys)) :
    EvI (RZ.iZipA K (tCons ta (tCons te tNil))) σ H (xs.zip ys).length (ith (rPair R S) (xs.zip ys)) := fun H1 e Q q =>
  h H1 e _ fun vs H2 e2 ⟨v, w, evs, ⟨a, us, e3, ha, ra⟩, ⟨b, ws, e4, hb, rb⟩⟩ => by
    subst evs e3 e4
    have hl := List.length_zip (l₁ := xs) (l₂ := ys)
    refine ⟨a, b, us, ws, rfl, .inr ⟨.inl (.inl ha), .inl (.inl hb), q _ H2 e2 ⟨fun i H3 hi e3 => ?_, fun i H3 x H4 hi e3 y => ?_, fun H3 e3 => ?_⟩⟩⟩
    · have h1 : i < us.length := by rw [plen ra]; omega
      have h2 : i < ws.length := by rw [plen rb]; omega
      exact ⟨us, ws, us[i], ws[i], .inl (.inl (e3 a _ ha)), .inl (.inl (e3 b _ hb)), List.getElem?_eq_getElem h1, List.getElem?_eq_getElem h2⟩
    · obtain ⟨T, x1, y1, rfl, hT, rfl, k1, k2⟩ := y
      obtain ⟨z1, hz1, r1⟩ := pget ra (k1 us (.inl (.inl (e3 a _ ha))))
      obtain ⟨z2, hz2, r2⟩ := pget rb (k2 ws (.inl (.inl (e3 b _ hb))))
      refine ⟨Ex.new hT, (z1, z2), by rw [List.getElem?_zip_eq_some]; exact ⟨hz1, hz2⟩, T, x1, y1, rfl, upd_same, up (e3.trans (Ex.new hT)) r1, up (e3.trans (Ex.new hT)) r2⟩
    · refine ⟨us, ws, .inl (.inl (e3 a _ ha)), .inl (.inl (e3 b _ hb)), ?_⟩
      rw [plen ra, plen rb]
      omega
/-- the places and items of a list -/
theorem i_enum [Mono R] (h : EvP tl σ H (is (rLst R) xs)) : EvI (iEnum K (tCons tl tNil)) σ H xs.length (fun i v H => ∃ x, xs[i]? = some x ∧ rPair rInt R H v ((i : Int), x)) := fun H1 e Q q =>
  h H1 e _ fun v H2 e2 ⟨a, vs, ev, hv, r⟩ => by
    subst ev
    refine ⟨a, vs, rfl, .inl (.inl hv), q _ H2 e2 ⟨fun i H3 hi e3 => ?_, fun i H3 x H4 hi e3 y => ?_, fun H3 e3 => ?_⟩⟩
    · have hl : i < vs.length := by rw [plen r]; exact hi
      exact ⟨vs, vs[i], .inl (.inl (e3 a _ hv)), List.getElem?_eq_getElem hl⟩
    · obtain ⟨T, x1, ex, hT, eh, y⟩ := y
      subst ex eh
      obtain ⟨b, hb, rb⟩ := pget r (y vs (.inl (.inl (e3 a _ hv))))
      exact ⟨Ex.new hT, b, hb, T, _, _, rfl, upd_same, rfl, up (e3.trans (Ex.new hT)) rb⟩
    · exact ⟨vs, .inl (.inl (e3 a _ hv)), Nat.le_of_eq (plen r)⟩
end

/-! ### list comprehensions -/
/-- what the turns below i have given -/
def Sel {γ : Type} (f : Nat → Bool) (S : Nat → γ → Prop) : Nat → List γ → Prop
  | 0, ys => ys = []
  | i + 1, ys => if f i = true then ∃ zs y, ys = zs ++ [y] ∧ Sel f S i zs ∧ S i y else Sel f S i ys
theorem sel_len {γ : Type} {f : Nat → Bool} {S : Nat → γ → Prop} : ∀ {n : Nat} {ys : List γ}, Sel f S n ys → ys.length ≤ n
  | 0, ys, h => by rw [show ys = [] from h]; exact Nat.le_refl _
  | n + 1, ys, h => by
    unfold Sel at h
    split at h
    · obtain ⟨zs, y, rfl, hz, _⟩ := h
      have := sel_len hz
      simp
      omega
    · have := sel_len h
      omega
/-- a value that stands for some y, whatever becomes of what stood ahead but the tuples -/
def someF {β : Type} (R : Rdr β) (S : β → Prop) : Hp → V → Hp → Prop := fun H1 v H2 => ∃ y, S y ∧ ∀ H', (∀ a o, H1 a = none → H2 a = some o → H' a = some o) → Tx H2 H' → R H' v y
section
variable {σ : L2.St} {H : Hp} {te : TE} {β γ : Type} {R : Rdr β} {Q : Rdr γ} {S : β → Prop}
theorem EvP.flat [MoT R] (h : EvP te σ H (some_ R S)) : EvP te σ H (someF R S) := h.imp fun _ _ _ _ _ ⟨y, hy, r⟩ => ⟨y, hy, fun _ _ t => upT t r⟩
theorem EvP.flatI [MoT R] {x : β} (h : EvP te σ H (is R x)) : EvP te σ H (someF R fun y => y = x) := h.imp fun _ _ _ _ _ r => ⟨x, rfl, fun _ _ t => upT t r⟩
theorem EvP.fresh [MoT Q] {S : List γ → Prop} (h : EvP te σ H (someN (rLst Q) S)) : EvP te σ H (someF (rLst Q) S) := h.imp fun _ _ _ _ _ ⟨a, y, ev, hn, hy, r⟩ => ⟨y, hy, fun H' k t => by
  obtain ⟨b, vs, eb, hb, rb⟩ := r
  cases eb
  cases ev
  exact ⟨_, vs, rfl, k _ _ hn hb, pmap rb fun _ _ r => upT t r⟩⟩
theorem EvP.freshI [MoT Q] {x : List γ} (h : EvP te σ H (nw (rLst Q) x)) : EvP te σ H (someF (rLst Q) fun y => y = x) := EvP.fresh (S := fun y => y = x) (h.imp fun _ _ _ _ _ ⟨a, ev, hn, r⟩ => ⟨a, x, ev, hn, rfl, r⟩)
end
section
variable {σ : L2.St} {H : Hp} {wi : TI} {g : TG} {tt : TT} {te : TE} {vs : List Nat} {γ : Type} {R' : Rdr γ} {n : Nat} {Y : Nat → V → Hp → Prop}
/-- a target that hands on what it is asked -/
def GM (g : TG) : Prop := ∀ x σ H (A B : L2.St → Hp → Prop), (∀ s h, A s h → B s h) → g x σ H A → g x σ H B
theorem gm_name {i : Nat} : GM (gName i) := fun _ _ _ _ _ k h => k _ _ h
theorem gm_nil : ∀ vs σ H (A B : L2.St → Hp → Prop), (∀ s h, A s h → B s h) → gNil vs σ H A → gNil vs σ H B := fun _ _ _ _ _ k h => ⟨h.1, k _ _ h.2⟩
theorem gm_cons {t : TG} {u : TGs} (ht : GM t) (hu : ∀ vs σ H (A B : L2.St → Hp → Prop), (∀ s h, A s h → B s h) → u vs σ H A → u vs σ H B) : ∀ vs σ H (A B : L2.St → Hp → Prop), (∀ s h, A s h → B s h) → gCons t u vs σ H A → gCons t u vs σ H B :=
  fun _ _ _ _ _ k ⟨v, r, e, h⟩ => ⟨v, r, e, ht _ _ _ _ _ (fun s h' q => hu _ _ _ _ _ k q) h⟩
theorem gm_tup {K : PySem.W.Frag} {m : Nat} {u : TGs} (hu : ∀ vs σ H (A B : L2.St → Hp → Prop), (∀ s h, A s h → B s h) → u vs σ H A → u vs σ H B) : GM (gTup K m u) :=
  fun _ _ _ _ _ k ⟨a, xs, e, h1, h2, h⟩ => ⟨a, xs, e, h1, h2, hu _ _ _ _ _ k h⟩
theorem lcS (f : Nat → Bool) (S : Nat → γ → Prop) (gm : GM g) (hi : EvI wi σ H n Y) (hn : n ≤ 50000)
    (ht : ∀ i x H1, i < n → Ex H H1 → Y i x H1 → g x (wipe σ vs) H1 fun σ2 H2 => Ex H1 H2 ∧ wipe σ2 vs = wipe σ vs ∧ EvT tt σ2 H2 (f i) ∧ (f i = true → EvP te σ2 H2 (someF R' (S i)))) :
    EvP (tLc wi g tt te vs) σ H (someN (rLst R') (Sel f S n)) := fun H1 e1 Q q =>
  hi H1 e1 _ fun J H2 e2 w D hD => by
    let Wd : Nat → Hp → Prop := fun i H' => Ex H2 H' ∧ ∃ ws ys, H' D = some (.lst ws) ∧ Paired (fun v y => ∀ H'', (∀ a o, a ≠ D → H' a = some o → H'' a = some o) → R' H'' v y) ws ys ∧ Sel f S i ys
    refine ⟨fun i m H' => m = n - i ∧ i ≤ n ∧ Wd i H', ⟨n, rfl, Nat.zero_le _, Ex.new hD, [], [], upd_same, .nil, rfl⟩, ?_⟩
    rintro i m H3 ⟨rfl, hin, e3, ws, ys, hws, hp, hs⟩
    by_cases hlt : i < n
    · refine .inr ⟨w.go i H3 hlt e3, fun H' => Wd (i + 1) H', fun H' p => ⟨n - (i + 1), by omega, rfl, hlt, p⟩, fun x H4 y => ?_⟩
      obtain ⟨e4, hy⟩ := w.yld i H3 x H4 hlt e3 y
      have e04 : Ex H H4 := ((e1.trans e2).trans e3).trans e4
      refine gm _ _ _ _ _ (fun σ2 H5 z => ?_) (ht i x H4 hlt e04 hy)
      obtain ⟨e5, hw, hT, hE⟩ := z
      refine ⟨hw, hT H5 (Ex.refl _) _ fun H6 e6 => ?_⟩
      have e36 : Ex H3 H6 := (e4.trans e5).trans e6
      cases hf : f i with
      | false =>
        rw [if_neg (by decide)]
        exact ⟨e3.trans e36, ws, ys, e36 D _ hws, pmap hp fun _ _ r H'' k => r H'' fun a o ha h => k a o ha (e36 a o h), by unfold Sel; rw [hf]; exact hs⟩
      | true =>
        rw [if_pos rfl]
        refine hE hf H6 e6 _ fun v H7 e7 ⟨y, hy, ry⟩ => ⟨ws, e7 D _ (e36 D _ hws), ?_, Ex.mut (e3.trans (e36.trans e7)) hD, ws ++ [v], ys ++ [y], upd_same, ?_, ?_⟩
        · have h1 := plen hp
          have h2 := sel_len hs
          exact Evl.sz_lt (by omega)
        · have h6 : H6 D = some (.lst ws) := e36 D _ hws
          have h7 : H7 D = some (.lst ws) := e7 D _ h6
          refine psnoc (pmap hp fun _ _ r H'' k => r H'' fun a o ha h => k a o ha ?_) fun H'' k => ry H'' (fun a o ha h => k a o ?_ ?_) fun a o xs kk h => k a _ ?_ ?_
          · rw [upd_ne ha]; exact e7 a o (e36 a o h)
          · intro z; subst z; rw [h6] at ha; cases ha
          · rw [upd_ne (fun z => by subst z; rw [h6] at ha; cases ha)]; exact h
          · intro z; subst z; rw [h7] at h; cases h; rcases kk with kk | ⟨_, kk⟩ <;> cases kk
          · rw [upd_ne (fun z => by subst z; rw [h7] at h; cases h; rcases kk with kk | ⟨_, kk⟩ <;> cases kk)]; exact h
        · unfold Sel; rw [hf]; exact ⟨ys, y, rfl, hs, hy⟩
    · have e : i = n := by omega
      subst e
      exact .inl ⟨w.stop H3 e3, q _ H3 (e2.trans e3) ⟨D, ys, rfl, Evl.fresh_back e2 hD, hs, D, ws, rfl, hws, pmap hp fun _ _ r => r H3 fun _ _ _ h => h⟩⟩
theorem sel_map {β : Type} {xs : List β} (fb : β → Bool) (h : β → γ) : ∀ {i : Nat} {ys : List γ}, i ≤ xs.length → Sel (fun i => (xs[i]?).elim false fb) (fun i y => ∃ x, xs[i]? = some x ∧ y = h x) i ys → ys = ((xs.take i).filter fb).map h
  | 0, ys, _, e => by rw [show ys = [] from e]; rfl
  | i + 1, ys, hi, e => by
    have hx : xs[i]? = some xs[i] := List.getElem?_eq_getElem (by omega)
    rw [List.take_add_one, hx, List.filter_append, List.map_append]
    unfold Sel at e
    rw [hx] at e
    cases q : fb xs[i] with
    | true =>
      have q' : (some xs[i]).elim false fb = true := q
      rw [if_pos q'] at e
      obtain ⟨zs, y, rfl, h1, x, h2, h3⟩ := e
      cases h2
      rw [sel_map fb h (by omega) h1, h3]
      simp [q]
    | false =>
      have q' : ¬ (some xs[i]).elim false fb = true := by show ¬ fb xs[i] = true; rw [q]; decide
      rw [if_neg q'] at e
      rw [sel_map fb h (by omega) e]
      simp [q]
/-- over the items of a list: those that pass, each turned -/
theorem lcD {β : Type} {R : Rdr β} {xs : List β} (fb : β → Bool) (h : β → γ) (gm : GM g) (hi : EvI wi σ H xs.length (ith R xs)) (hn : xs.length ≤ 50000)
    (ht : ∀ (i : Nat) (x : β) v H1, xs[i]? = some x → Ex H H1 → R H1 v x → g v (wipe σ vs) H1 fun σ2 H2 => Ex H1 H2 ∧ wipe σ2 vs = wipe σ vs ∧ EvT tt σ2 H2 (fb x) ∧ (fb x = true → EvP te σ2 H2 (someF R' fun y => y = h x))) :
    EvP (tLc wi g tt te vs) σ H (nw (rLst R') ((xs.filter fb).map h)) :=
  (lcS (R' := R') (fun i => (xs[i]?).elim false fb) (fun i y => ∃ x, xs[i]? = some x ∧ y = h x) gm hi hn fun i v H1 hi e ⟨x, hx, r⟩ => gm _ _ _ _ _ (fun σ2 H2 ⟨h1, h2, h3, h4⟩ => ⟨h1, h2, by rw [hx]; exact h3, by
    rw [hx]
    exact fun k => (h4 k).imp fun _ _ _ _ _ ⟨y, hy, z⟩ => ⟨y, ⟨x, rfl, hy⟩, z⟩⟩) (ht i x v H1 hx e r)).imp fun H1 v H2 _ _ ⟨a, ys, e, hn, hs, r⟩ => by
      have := sel_map fb h (Nat.le_refl _) hs
      rw [List.take_length] at this
      subst this
      exact ⟨a, e, hn, r⟩
/-- those that pass -/
theorem lcF {xs : List γ} {R : Rdr γ} (fb : γ → Bool) (gm : GM g) (hi : EvI wi σ H xs.length (ith R xs)) (hn : xs.length ≤ 50000)
    (ht : ∀ (i : Nat) (x : γ) v H1, xs[i]? = some x → Ex H H1 → R H1 v x → g v (wipe σ vs) H1 fun σ2 H2 => Ex H1 H2 ∧ wipe σ2 vs = wipe σ vs ∧ EvT tt σ2 H2 (fb x) ∧ (fb x = true → EvP te σ2 H2 (someF R' fun y => y = x))) :
    EvP (tLc wi g tt te vs) σ H (nw (rLst R') (xs.filter fb)) := by
  have z := lcD (R' := R') (tt := tt) (te := te) fb (fun x => x) gm hi hn ht
  rw [List.map_id'] at z
  exact z
/-- all, each turned -/
theorem lcM {β : Type} {R : Rdr β} {xs : List β} (h : β → γ) (gm : GM g) (hi : EvI wi σ H xs.length (ith R xs)) (hn : xs.length ≤ 50000)
    (ht : ∀ (i : Nat) (x : β) v H1, xs[i]? = some x → Ex H H1 → R H1 v x → g v (wipe σ vs) H1 fun σ2 H2 => Ex H1 H2 ∧ wipe σ2 vs = wipe σ vs ∧ EvT tt σ2 H2 true ∧ EvP te σ2 H2 (someF R' fun y => y = h x)) :
    EvP (tLc wi g tt te vs) σ H (nw (rLst R') (xs.map h)) := by
  have z := lcD (R' := R') (tt := tt) (te := te) (fun _ => true) h gm hi hn fun i x v H1 hx e r => gm _ _ _ _ _ (fun σ2 H2 ⟨h1, h2, h3, h4⟩ => ⟨h1, h2, h3, fun _ => h4⟩) (ht i x v H1 hx e r)
  rw [List.filter_eq_self.mpr fun _ _ => rfl] at z
  exact z
theorem et_yes : EvT tYes σ H true := fun H1 _ Q q => q H1 (Ex.refl _)
end
end FM

/-! ## FTop -/
set_option Elab.async false
set_option linter.all false
set_option maxRecDepth 100000
set_option maxHeartbeats 2000000
/-! The text by places, what the top leaves, and each fact by its name (printed by genfacts.py). -/
namespace FM
open PySem PySem.Spec PyProof.Rows L2
def top (i : Nat) : Stmt := PySem.Challenge.pw_fewestmethods_k51_whole_conflicts_by_all.main.body.getD i (.Pass ⟨0, 0, 0, 0⟩)
abbrev st_is_name : Stmt := top 4
abbrev st_is_step : Stmt := top 12
abbrev st_is_body : Stmt := top 13
abbrev st_has_next_step : Stmt := top 14
abbrev st_replace_next : Stmt := top 15
abbrev st_is_count : Stmt := top 32
abbrev st_is_point : Stmt := top 33
abbrev st_require_point_points : Stmt := top 34
abbrev st_require_alike_points : Stmt := top 36
abbrev st_lies_at_or_below : Stmt := top 37
abbrev st_require_points : Stmt := top 38
abbrev st_in_order : Stmt := top 39
abbrev st_listed : Stmt := top 40
abbrev st_highest : Stmt := top 41
abbrev st_lowest : Stmt := top 42
abbrev st_combined : Stmt := top 43
abbrev st_highest_common_points : Stmt := top 44
abbrev st_require_point_calls : Stmt := top 49
abbrev st_rivals : Stmt := top 51
abbrev st_status : Stmt := top 52
abbrev st_is_point_of_length : Stmt := top 54
abbrev st_require_methods : Stmt := top 55
abbrev st_ambiguous_commons : Stmt := top 59
abbrev st_conflicts : Stmt := top 60
abbrev st_is_settled : Stmt := top 61
abbrev st_are_different_classes : Stmt := top 63
abbrev st_element_problem : Stmt := top 64
abbrev st__law_pot : Stmt := top 69
abbrev st__law_draw : Stmt := top 70
abbrev st__law_mixed : Stmt := top 71
abbrev st__law_name : Stmt := top 72
abbrev st__law_names : Stmt := top 73
abbrev st__law_kinds : Stmt := top 74
abbrev st__law_above : Stmt := top 75
abbrev st__law_ups : Stmt := top 76
abbrev st__law_is_under : Stmt := top 77
abbrev st__law_all_points : Stmt := top 78
abbrev st__law_lowest : Stmt := top 79
abbrev st__law_near : Stmt := top 80
abbrev st__law_is_one : Stmt := top 81
abbrev st__law_expansions : Stmt := top 82
abbrev st__law_rivals : Stmt := top 83
abbrev st__law_answer : Stmt := top 84
abbrev st__law_body : Stmt := top 85
abbrev st__law_methods : Stmt := top 86
abbrev st__law_highest : Stmt := top 87
abbrev st__law_is_meet : Stmt := top 88
abbrev st__law_right : Stmt := top 89
abbrev st_law : Stmt := top 90
abbrev st_MethodTable___init__ : Stmt := inClass (top 56) 1
abbrev st_MethodTable_expand : Stmt := inClass (top 56) 3
abbrev st_MethodTable_common_expansion : Stmt := inClass (top 56) 4
abbrev st_MethodTable_applicable_at : Stmt := inClass (top 56) 5
abbrev st_MethodTable_rivals_at : Stmt := inClass (top 56) 6
abbrev st_MethodTable_just_above_at : Stmt := inClass (top 56) 7
abbrev st_MethodTable_is_own_point : Stmt := inClass (top 56) 8
abbrev st_MethodTable_hierarchy : Stmt := inClass (top 56) 12
abbrev st_MethodTable_points : Stmt := inClass (top 56) 14
abbrev st_Hierarchy___init__ : Stmt := inClass (top 67) 1
abbrev st_Hierarchy_ancestors_of_new : Stmt := inClass (top 67) 4
abbrev st_Hierarchy_require_class : Stmt := inClass (top 67) 5
abbrev st_Hierarchy_names : Stmt := inClass (top 67) 6
abbrev st_Hierarchy_has_class : Stmt := inClass (top 67) 7
abbrev st_Hierarchy_position_of : Stmt := inClass (top 67) 9
abbrev st_Hierarchy_is_at_or_below : Stmt := inClass (top 67) 10
abbrev st_Hierarchy_descendants : Stmt := inClass (top 67) 12
abbrev st_Hierarchy_highest_common : Stmt := inClass (top 67) 13
abbrev st_MethodTable_is_count : Stmt := inClass (top 56) 2
def fn : List He.DefD := [
  ⟨("is_name", none), "is_name", "is_name", defArgs st_is_name, defBody st_is_name, defScope st_is_name, [], []⟩,
  ⟨("is_step", none), "is_step", "is_step", defArgs st_is_step, defBody st_is_step, defScope st_is_step, [], []⟩,
  ⟨("is_body", none), "is_body", "is_body", defArgs st_is_body, defBody st_is_body, defScope st_is_body, [], []⟩,
  ⟨("has_next_step", none), "has_next_step", "has_next_step", defArgs st_has_next_step, defBody st_has_next_step, defScope st_has_next_step, [], []⟩,
  ⟨("replace_next", none), "replace_next", "replace_next", defArgs st_replace_next, defBody st_replace_next, defScope st_replace_next, [], []⟩,
  ⟨("is_count", none), "is_count", "is_count", defArgs st_is_count, defBody st_is_count, defScope st_is_count, [], []⟩,
  ⟨("is_point", none), "is_point", "is_point", defArgs st_is_point, defBody st_is_point, defScope st_is_point, [], []⟩,
  ⟨("require_point_points", none), "require_point", "require_point", defArgs st_require_point_points, defBody st_require_point_points, defScope st_require_point_points, [], []⟩,
  ⟨("require_alike_points", none), "require_alike_points", "require_alike_points", defArgs st_require_alike_points, defBody st_require_alike_points, defScope st_require_alike_points, [], []⟩,
  ⟨("lies_at_or_below", none), "lies_at_or_below", "lies_at_or_below", defArgs st_lies_at_or_below, defBody st_lies_at_or_below, defScope st_lies_at_or_below, [], []⟩,
  ⟨("require_points", none), "require_points", "require_points", defArgs st_require_points, defBody st_require_points, defScope st_require_points, [], []⟩,
  ⟨("in_order", none), "in_order", "in_order", defArgs st_in_order, defBody st_in_order, defScope st_in_order, [], []⟩,
  ⟨("listed", none), "listed", "listed", defArgs st_listed, defBody st_listed, defScope st_listed, [], []⟩,
  ⟨("highest", none), "highest", "highest", defArgs st_highest, defBody st_highest, defScope st_highest, [], []⟩,
  ⟨("lowest", none), "lowest", "lowest", defArgs st_lowest, defBody st_lowest, defScope st_lowest, [], []⟩,
  ⟨("combined", none), "combined", "combined", defArgs st_combined, defBody st_combined, defScope st_combined, [], []⟩,
  ⟨("highest_common_points", none), "highest_common_points", "highest_common_points", defArgs st_highest_common_points, defBody st_highest_common_points, defScope st_highest_common_points, [], []⟩,
  ⟨("require_point_calls", none), "require_point", "require_point", defArgs st_require_point_calls, defBody st_require_point_calls, defScope st_require_point_calls, [], []⟩,
  ⟨("rivals", none), "rivals", "rivals", defArgs st_rivals, defBody st_rivals, defScope st_rivals, [], []⟩,
  ⟨("status", none), "status", "status", defArgs st_status, defBody st_status, defScope st_status, [], []⟩,
  ⟨("is_point_of_length", none), "is_point_of_length", "is_point_of_length", defArgs st_is_point_of_length, defBody st_is_point_of_length, defScope st_is_point_of_length, [], []⟩,
  ⟨("require_methods", none), "require_methods", "require_methods", defArgs st_require_methods, defBody st_require_methods, defScope st_require_methods, [], []⟩,
  ⟨("ambiguous_commons", none), "ambiguous_commons", "ambiguous_commons", defArgs st_ambiguous_commons, defBody st_ambiguous_commons, defScope st_ambiguous_commons, [], []⟩,
  ⟨("conflicts", none), "conflicts", "conflicts", defArgs st_conflicts, defBody st_conflicts, defScope st_conflicts, [], []⟩,
  ⟨("is_settled", none), "is_settled", "is_settled", defArgs st_is_settled, defBody st_is_settled, defScope st_is_settled, [], []⟩,
  ⟨("are_different_classes", none), "are_different_classes", "are_different_classes", defArgs st_are_different_classes, defBody st_are_different_classes, defScope st_are_different_classes, [], []⟩,
  ⟨("element_problem", none), "element_problem", "element_problem", defArgs st_element_problem, defBody st_element_problem, defScope st_element_problem, [], []⟩,
  ⟨("_law_pot", none), "_law_pot", "_law_pot", defArgs st__law_pot, defBody st__law_pot, defScope st__law_pot, [], []⟩,
  ⟨("_law_draw", none), "_law_draw", "_law_draw", defArgs st__law_draw, defBody st__law_draw, defScope st__law_draw, [], []⟩,
  ⟨("_law_mixed", none), "_law_mixed", "_law_mixed", defArgs st__law_mixed, defBody st__law_mixed, defScope st__law_mixed, [], []⟩,
  ⟨("_law_name", none), "_law_name", "_law_name", defArgs st__law_name, defBody st__law_name, defScope st__law_name, [], []⟩,
  ⟨("_law_names", none), "_law_names", "_law_names", defArgs st__law_names, defBody st__law_names, defScope st__law_names, [], []⟩,
  ⟨("_law_kinds", none), "_law_kinds", "_law_kinds", defArgs st__law_kinds, defBody st__law_kinds, defScope st__law_kinds, [], []⟩,
  ⟨("_law_above", none), "_law_above", "_law_above", defArgs st__law_above, defBody st__law_above, defScope st__law_above, [], []⟩,
  ⟨("_law_ups", none), "_law_ups", "_law_ups", defArgs st__law_ups, defBody st__law_ups, defScope st__law_ups, [], []⟩,
  ⟨("_law_is_under", none), "_law_is_under", "_law_is_under", defArgs st__law_is_under, defBody st__law_is_under, defScope st__law_is_under, [], []⟩,
  ⟨("_law_all_points", none), "_law_all_points", "_law_all_points", defArgs st__law_all_points, defBody st__law_all_points, defScope st__law_all_points, [], []⟩,
  ⟨("_law_lowest", none), "_law_lowest", "_law_lowest", defArgs st__law_lowest, defBody st__law_lowest, defScope st__law_lowest, [], []⟩,
  ⟨("_law_near", none), "_law_near", "_law_near", defArgs st__law_near, defBody st__law_near, defScope st__law_near, [], []⟩,
  ⟨("_law_is_one", none), "_law_is_one", "_law_is_one", defArgs st__law_is_one, defBody st__law_is_one, defScope st__law_is_one, [], []⟩,
  ⟨("_law_expansions", none), "_law_expansions", "_law_expansions", defArgs st__law_expansions, defBody st__law_expansions, defScope st__law_expansions, [], []⟩,
  ⟨("_law_rivals", none), "_law_rivals", "_law_rivals", defArgs st__law_rivals, defBody st__law_rivals, defScope st__law_rivals, [], []⟩,
  ⟨("_law_answer", none), "_law_answer", "_law_answer", defArgs st__law_answer, defBody st__law_answer, defScope st__law_answer, [], []⟩,
  ⟨("_law_body", none), "_law_body", "_law_body", defArgs st__law_body, defBody st__law_body, defScope st__law_body, [], []⟩,
  ⟨("_law_methods", none), "_law_methods", "_law_methods", defArgs st__law_methods, defBody st__law_methods, defScope st__law_methods, [], []⟩,
  ⟨("_law_highest", none), "_law_highest", "_law_highest", defArgs st__law_highest, defBody st__law_highest, defScope st__law_highest, [], []⟩,
  ⟨("_law_is_meet", none), "_law_is_meet", "_law_is_meet", defArgs st__law_is_meet, defBody st__law_is_meet, defScope st__law_is_meet, [], []⟩,
  ⟨("_law_right", none), "_law_right", "_law_right", defArgs st__law_right, defBody st__law_right, defScope st__law_right, [], []⟩,
  ⟨("law", none), "law", "law", defArgs st_law, defBody st_law, defScope st_law, [], []⟩,
  ⟨("MethodTable", some "__init__"), "__init__", "MethodTable.__init__", defArgs st_MethodTable___init__, defBody st_MethodTable___init__, defScope st_MethodTable___init__, [.non], []⟩,
  ⟨("MethodTable", some "expand"), "expand", "MethodTable.expand", defArgs st_MethodTable_expand, defBody st_MethodTable_expand, defScope st_MethodTable_expand, [], []⟩,
  ⟨("MethodTable", some "common_expansion"), "common_expansion", "MethodTable.common_expansion", defArgs st_MethodTable_common_expansion, defBody st_MethodTable_common_expansion, defScope st_MethodTable_common_expansion, [], []⟩,
  ⟨("MethodTable", some "applicable_at"), "applicable_at", "MethodTable.applicable_at", defArgs st_MethodTable_applicable_at, defBody st_MethodTable_applicable_at, defScope st_MethodTable_applicable_at, [], []⟩,
  ⟨("MethodTable", some "rivals_at"), "rivals_at", "MethodTable.rivals_at", defArgs st_MethodTable_rivals_at, defBody st_MethodTable_rivals_at, defScope st_MethodTable_rivals_at, [], []⟩,
  ⟨("MethodTable", some "just_above_at"), "just_above_at", "MethodTable.just_above_at", defArgs st_MethodTable_just_above_at, defBody st_MethodTable_just_above_at, defScope st_MethodTable_just_above_at, [], []⟩,
  ⟨("MethodTable", some "is_own_point"), "is_own_point", "MethodTable.is_own_point", defArgs st_MethodTable_is_own_point, defBody st_MethodTable_is_own_point, defScope st_MethodTable_is_own_point, [], []⟩,
  ⟨("MethodTable", some "hierarchy"), "hierarchy", "MethodTable.hierarchy", defArgs st_MethodTable_hierarchy, defBody st_MethodTable_hierarchy, defScope st_MethodTable_hierarchy, [], []⟩,
  ⟨("MethodTable", some "points"), "points", "MethodTable.points", defArgs st_MethodTable_points, defBody st_MethodTable_points, defScope st_MethodTable_points, [], []⟩,
  ⟨("Hierarchy", some "__init__"), "__init__", "Hierarchy.__init__", defArgs st_Hierarchy___init__, defBody st_Hierarchy___init__, defScope st_Hierarchy___init__, [.adr (He.dflAt ("Hierarchy", some "__init__") 0)], []⟩,
  ⟨("Hierarchy", some "ancestors_of_new"), "ancestors_of_new", "Hierarchy.ancestors_of_new", defArgs st_Hierarchy_ancestors_of_new, defBody st_Hierarchy_ancestors_of_new, defScope st_Hierarchy_ancestors_of_new, [], []⟩,
  ⟨("Hierarchy", some "require_class"), "require_class", "Hierarchy.require_class", defArgs st_Hierarchy_require_class, defBody st_Hierarchy_require_class, defScope st_Hierarchy_require_class, [], []⟩,
  ⟨("Hierarchy", some "names"), "names", "Hierarchy.names", defArgs st_Hierarchy_names, defBody st_Hierarchy_names, defScope st_Hierarchy_names, [], []⟩,
  ⟨("Hierarchy", some "has_class"), "has_class", "Hierarchy.has_class", defArgs st_Hierarchy_has_class, defBody st_Hierarchy_has_class, defScope st_Hierarchy_has_class, [], []⟩,
  ⟨("Hierarchy", some "position_of"), "position_of", "Hierarchy.position_of", defArgs st_Hierarchy_position_of, defBody st_Hierarchy_position_of, defScope st_Hierarchy_position_of, [], []⟩,
  ⟨("Hierarchy", some "is_at_or_below"), "is_at_or_below", "Hierarchy.is_at_or_below", defArgs st_Hierarchy_is_at_or_below, defBody st_Hierarchy_is_at_or_below, defScope st_Hierarchy_is_at_or_below, [], []⟩,
  ⟨("Hierarchy", some "descendants"), "descendants", "Hierarchy.descendants", defArgs st_Hierarchy_descendants, defBody st_Hierarchy_descendants, defScope st_Hierarchy_descendants, [], []⟩,
  ⟨("Hierarchy", some "highest_common"), "highest_common", "Hierarchy.highest_common", defArgs st_Hierarchy_highest_common, defBody st_Hierarchy_highest_common, defScope st_Hierarchy_highest_common, [], []⟩]
def fa : List He.Fa := [
  .glo "is_name",
  .glo "is_step",
  .glo "is_body",
  .glo "has_next_step",
  .glo "replace_next",
  .glo "is_count",
  .glo "is_point",
  .glo "require_point_points",
  .glo "require_alike_points",
  .glo "lies_at_or_below",
  .glo "require_points",
  .glo "in_order",
  .glo "listed",
  .glo "highest",
  .glo "lowest",
  .glo "combined",
  .glo "highest_common_points",
  .glo "require_point_calls",
  .glo "rivals",
  .glo "status",
  .glo "is_point_of_length",
  .glo "require_methods",
  .glo "ambiguous_commons",
  .glo "conflicts",
  .glo "is_settled",
  .glo "are_different_classes",
  .glo "element_problem",
  .glo "_law_pot",
  .glo "_law_draw",
  .glo "_law_mixed",
  .glo "_law_name",
  .glo "_law_names",
  .glo "_law_kinds",
  .glo "_law_above",
  .glo "_law_ups",
  .glo "_law_is_under",
  .glo "_law_all_points",
  .glo "_law_lowest",
  .glo "_law_near",
  .glo "_law_is_one",
  .glo "_law_expansions",
  .glo "_law_rivals",
  .glo "_law_answer",
  .glo "_law_body",
  .glo "_law_methods",
  .glo "_law_highest",
  .glo "_law_is_meet",
  .glo "_law_right",
  .glo "law",
  .glo "Hierarchy",
  .glo "MethodTable",
  .glo "NEXT_STEP",
  .free "len",
  .free "isinstance",
  .free "all",
  .free "any",
  .free "tuple",
  .free "list",
  .free "dict",
  .free "str",
  .free "int",
  .free "bool",
  .free "range",
  .free "enumerate",
  .free "zip",
  .free "sorted",
  .free "divmod",
  .free "repr",
  .free "abs",
  .free "max",
  .free "min",
  .int "MAX_NAME_LENGTH" 8,
  .int "MAX_PARAMETERS" 3,
  .str "LETTERS" "abcdefghijklmnopqrstuvwxyz",
  .str "SAY" "say",
  .str "NONE" "none",
  .str "ANSWERED" "answered",
  .str "AMBIGUOUS_calls" "ambiguous",
  .str "AMBIGUOUS_conflicts" "ambiguous",
  .cls "Hierarchy",
  .mkr "Hierarchy",
  .noat "Hierarchy" "superclasses_by_class",
  .noat "Hierarchy" "ancestors_by_class",
  .cls "MethodTable",
  .mkr "MethodTable",
  .noat "MethodTable" "class_order",
  .noat "MethodTable" "parameter_count",
  .noat "MethodTable" "bodies",
  .noat "MethodTable" "next_steps",
  .noat "MethodTable" "expanded",
  .meth "MethodTable" "expand",
  .meth "MethodTable" "common_expansion",
  .meth "MethodTable" "applicable_at",
  .meth "MethodTable" "rivals_at",
  .meth "MethodTable" "just_above_at",
  .meth "MethodTable" "is_own_point",
  .meth "MethodTable" "hierarchy",
  .meth "MethodTable" "points",
  .meth "Hierarchy" "ancestors_of_new",
  .meth "Hierarchy" "require_class",
  .meth "Hierarchy" "names",
  .meth "Hierarchy" "has_class",
  .meth "Hierarchy" "position_of",
  .meth "Hierarchy" "is_at_or_below",
  .meth "Hierarchy" "descendants",
  .meth "Hierarchy" "highest_common"]
/-- the def behind the staticmethod -/
def smP (K : PySem.W.Frag) : Addr := He.ma K (He.ga K "MethodTable") "is_count"
def smF (K : PySem.W.Frag) : Addr := match PySem.W.recIn K (smP K) "staticmethod" with
  | some (.ref g :: _) => g
  | _ => 0
def fnA (K : PySem.W.Frag) (a : Addr) : He.FnW := match K.lookup a with
  | some ⟨_, _, .func fd, _⟩ => some (fd.name, fd.qualname, fd.params, fd.body, fd.scope, fd.globals, fd.closure, fd.builtins)
  | _ => none
def okA (K : PySem.W.Frag) (a : Addr) (qual : Str) : Bool := match K.lookup a with
  | some ⟨_, _, .func fd, _⟩ => PySem.W.codeIn K fd.code qual && He.dflB K fd.defaults []
  | _ => false
def eqB (a : Option Bool) : Bool := match a with
  | some false => true
  | _ => false
def eqV' (a : Option Value) (t : String) : Bool := match a with
  | some (.type u) => decide (u = t)
  | _ => false
def eqG (a : Option (Option Value)) (t : String) : Bool := match a with
  | some (some (.builtin u)) => decide (u = t)
  | _ => false
def recB (K : PySem.W.Frag) : Bool := match PySem.W.recIn K (smP K) "staticmethod" with
  | some (.ref _ :: _) => true
  | _ => false
def more (K : PySem.W.Frag) : Bool :=
  (He.conB K "Hierarchy" "LIMIT" (.int 20) && He.conB K "MethodTable" "LIMIT" (.int 40)) && (He.tupB K "NEXT_STEP" [.str "next"] &&
  ((PySem.W.isClsIn K (He.ga K "MethodTable") && (He.eqO (PySem.W.findIn K (.ref (He.ga K "MethodTable")) "is_count") (some (some (.ref (smP K)))) && (eqV' (PySem.W.typeIn K (.ref (smP K))) "staticmethod" &&
    (eqG (PySem.W.specialIn K (.ref (smP K)) "__get__") "staticmethod.__get__" && (eqB (PySem.W.takesIn K (.ref (smP K))) && (recB K && (PySem.W.keepIn K (.ref (smF K)) && okA K (smF K) "MethodTable.is_count"))))))) &&
  (eqG (PySem.W.specialIn K (.ref (He.ma K (He.ga K "Hierarchy") "highest_common")) "__get__") "function.__get__" && (eqB (PySem.W.takesIn K (.ref (He.ma K (He.ga K "Hierarchy") "highest_common"))) && PySem.W.fnIn K (He.ma K (He.ga K "Hierarchy") "highest_common")))))
def valSm : He.FnW := some ("is_count", "MethodTable.is_count", defArgs st_MethodTable_is_count, .stmts (defBody st_MethodTable_is_count), defScope st_MethodTable_is_count, mainGlobals, [], builtinsNs)
abbrev AlF : Type := He.AlD × Bool × He.FnW
def obsF (K : PySem.W.Frag) : AlF := (He.obsD fa fn K, more K, fnA K (smF K))
def valF : AlF := (He.valD fn, true, valSm)
/-- what the end leans on -/
structure Says (K : PySem.W.Frag) : Prop where
  d : He.SaysD fa fn K
  m : more K = true
  s : fnA K (smF K) = valSm
theorem says_of {K : PySem.W.Frag} (e : obsF K = valF) : Says K := ⟨congrArg (fun z : AlF => z.1) e, congrArg (fun z : AlF => z.2.1) e, congrArg (fun z : AlF => z.2.2) e⟩
/-- the names whose objects are looked at -/
def nameF : He.Fa → Option Str
  | .glo x => some x
  | _ => none
/-- what an object names -/
def refF (g : Addr → Option Obj) (a : Addr) : List Addr := match g a with
  | some o => He.refsD o
  | none => []
/-- the objects of these names, and what they reach in n steps -/
def reachF (g : Addr → Option Obj) : Nat → List Addr → List Addr
  | 0, _ => []
  | n + 1, as => as ++ reachF g n (as.flatMap (refF g))
def asF (g : Addr → Option Obj) (n : Nat) : List Addr := mainGlobals :: reachF g n ((fa.filterMap nameF).map (He.ga (He.frG g [mainGlobals])))
def obsG (n : Nat) (g : Addr → Option Obj) : AlF := obsF (He.frG g (asF g n))
def hookF (n : Nat) : PySem.W.Hook where
  α := AlF
  obs := fun s => obsG n s.heap.get?
  val := fun _ => valF
  says := fun _ h => ∃ K : PySem.W.Frag, K.In h ∧ Says K
  of := fun _ _ e => ⟨_, He.frG_in, says_of e⟩
  keeps := fun _ _ _ ⟨K, hK, c⟩ k => ⟨K, PySem.W.Frag.In.keeps hK k, c⟩
theorem obsG_eq {n : Nat} {g : Addr → Option Obj} {s : Shared} (h : ∀ a, g a = s.heap.get? a) : obsG n g = (hookF n).obs s := by
  have e : g = s.heap.get? := funext h
  rw [e] <;> rfl
/-- what a def's proof may lean on -/
structure Txt (K : PySem.W.Frag) (mg : Str → Option Value) : Prop where
  says : Says K
  ns : ∃ h : Heap, K.In h ∧ h.Ns mainGlobals mg
section
variable {K : PySem.W.Frag} {mg : Str → Option Value} (T : Txt K mg)
include T
theorem Txt.g_is_name : mg "is_name" = some (.ref (He.ga K "is_name")) := let ⟨_, X, G⟩ := T.ns; He.glo_ok X G (T.says.d.fact 0)
theorem Txt.g_is_step : mg "is_step" = some (.ref (He.ga K "is_step")) := let ⟨_, X, G⟩ := T.ns; He.glo_ok X G (T.says.d.fact 1)
theorem Txt.g_is_body : mg "is_body" = some (.ref (He.ga K "is_body")) := let ⟨_, X, G⟩ := T.ns; He.glo_ok X G (T.says.d.fact 2)
theorem Txt.g_has_next_step : mg "has_next_step" = some (.ref (He.ga K "has_next_step")) := let ⟨_, X, G⟩ := T.ns; He.glo_ok X G (T.says.d.fact 3)
theorem Txt.g_replace_next : mg "replace_next" = some (.ref (He.ga K "replace_next")) := let ⟨_, X, G⟩ := T.ns; He.glo_ok X G (T.says.d.fact 4)
theorem Txt.g_is_count : mg "is_count" = some (.ref (He.ga K "is_count")) := let ⟨_, X, G⟩ := T.ns; He.glo_ok X G (T.says.d.fact 5)
theorem Txt.g_is_point : mg "is_point" = some (.ref (He.ga K "is_point")) := let ⟨_, X, G⟩ := T.ns; He.glo_ok X G (T.says.d.fact 6)
theorem Txt.g_require_point_points : mg "require_point_points" = some (.ref (He.ga K "require_point_points")) := let ⟨_, X, G⟩ := T.ns; He.glo_ok X G (T.says.d.fact 7)
theorem Txt.g_require_alike_points : mg "require_alike_points" = some (.ref (He.ga K "require_alike_points")) := let ⟨_, X, G⟩ := T.ns; He.glo_ok X G (T.says.d.fact 8)
theorem Txt.g_lies_at_or_below : mg "lies_at_or_below" = some (.ref (He.ga K "lies_at_or_below")) := let ⟨_, X, G⟩ := T.ns; He.glo_ok X G (T.says.d.fact 9)
theorem Txt.g_require_points : mg "require_points" = some (.ref (He.ga K "require_points")) := let ⟨_, X, G⟩ := T.ns; He.glo_ok X G (T.says.d.fact 10)
theorem Txt.g_in_order : mg "in_order" = some (.ref (He.ga K "in_order")) := let ⟨_, X, G⟩ := T.ns; He.glo_ok X G (T.says.d.fact 11)
theorem Txt.g_listed : mg "listed" = some (.ref (He.ga K "listed")) := let ⟨_, X, G⟩ := T.ns; He.glo_ok X G (T.says.d.fact 12)
theorem Txt.g_highest : mg "highest" = some (.ref (He.ga K "highest")) := let ⟨_, X, G⟩ := T.ns; He.glo_ok X G (T.says.d.fact 13)
theorem Txt.g_lowest : mg "lowest" = some (.ref (He.ga K "lowest")) := let ⟨_, X, G⟩ := T.ns; He.glo_ok X G (T.says.d.fact 14)
theorem Txt.g_combined : mg "combined" = some (.ref (He.ga K "combined")) := let ⟨_, X, G⟩ := T.ns; He.glo_ok X G (T.says.d.fact 15)
theorem Txt.g_highest_common_points : mg "highest_common_points" = some (.ref (He.ga K "highest_common_points")) := let ⟨_, X, G⟩ := T.ns; He.glo_ok X G (T.says.d.fact 16)
theorem Txt.g_require_point_calls : mg "require_point_calls" = some (.ref (He.ga K "require_point_calls")) := let ⟨_, X, G⟩ := T.ns; He.glo_ok X G (T.says.d.fact 17)
theorem Txt.g_rivals : mg "rivals" = some (.ref (He.ga K "rivals")) := let ⟨_, X, G⟩ := T.ns; He.glo_ok X G (T.says.d.fact 18)
theorem Txt.g_status : mg "status" = some (.ref (He.ga K "status")) := let ⟨_, X, G⟩ := T.ns; He.glo_ok X G (T.says.d.fact 19)
theorem Txt.g_is_point_of_length : mg "is_point_of_length" = some (.ref (He.ga K "is_point_of_length")) := let ⟨_, X, G⟩ := T.ns; He.glo_ok X G (T.says.d.fact 20)
theorem Txt.g_require_methods : mg "require_methods" = some (.ref (He.ga K "require_methods")) := let ⟨_, X, G⟩ := T.ns; He.glo_ok X G (T.says.d.fact 21)
theorem Txt.g_ambiguous_commons : mg "ambiguous_commons" = some (.ref (He.ga K "ambiguous_commons")) := let ⟨_, X, G⟩ := T.ns; He.glo_ok X G (T.says.d.fact 22)
theorem Txt.g_conflicts : mg "conflicts" = some (.ref (He.ga K "conflicts")) := let ⟨_, X, G⟩ := T.ns; He.glo_ok X G (T.says.d.fact 23)
theorem Txt.g_is_settled : mg "is_settled" = some (.ref (He.ga K "is_settled")) := let ⟨_, X, G⟩ := T.ns; He.glo_ok X G (T.says.d.fact 24)
theorem Txt.g_are_different_classes : mg "are_different_classes" = some (.ref (He.ga K "are_different_classes")) := let ⟨_, X, G⟩ := T.ns; He.glo_ok X G (T.says.d.fact 25)
theorem Txt.g_element_problem : mg "element_problem" = some (.ref (He.ga K "element_problem")) := let ⟨_, X, G⟩ := T.ns; He.glo_ok X G (T.says.d.fact 26)
theorem Txt.g__law_pot : mg "_law_pot" = some (.ref (He.ga K "_law_pot")) := let ⟨_, X, G⟩ := T.ns; He.glo_ok X G (T.says.d.fact 27)
theorem Txt.g__law_draw : mg "_law_draw" = some (.ref (He.ga K "_law_draw")) := let ⟨_, X, G⟩ := T.ns; He.glo_ok X G (T.says.d.fact 28)
theorem Txt.g__law_mixed : mg "_law_mixed" = some (.ref (He.ga K "_law_mixed")) := let ⟨_, X, G⟩ := T.ns; He.glo_ok X G (T.says.d.fact 29)
theorem Txt.g__law_name : mg "_law_name" = some (.ref (He.ga K "_law_name")) := let ⟨_, X, G⟩ := T.ns; He.glo_ok X G (T.says.d.fact 30)
theorem Txt.g__law_names : mg "_law_names" = some (.ref (He.ga K "_law_names")) := let ⟨_, X, G⟩ := T.ns; He.glo_ok X G (T.says.d.fact 31)
theorem Txt.g__law_kinds : mg "_law_kinds" = some (.ref (He.ga K "_law_kinds")) := let ⟨_, X, G⟩ := T.ns; He.glo_ok X G (T.says.d.fact 32)
theorem Txt.g__law_above : mg "_law_above" = some (.ref (He.ga K "_law_above")) := let ⟨_, X, G⟩ := T.ns; He.glo_ok X G (T.says.d.fact 33)
theorem Txt.g__law_ups : mg "_law_ups" = some (.ref (He.ga K "_law_ups")) := let ⟨_, X, G⟩ := T.ns; He.glo_ok X G (T.says.d.fact 34)
theorem Txt.g__law_is_under : mg "_law_is_under" = some (.ref (He.ga K "_law_is_under")) := let ⟨_, X, G⟩ := T.ns; He.glo_ok X G (T.says.d.fact 35)
theorem Txt.g__law_all_points : mg "_law_all_points" = some (.ref (He.ga K "_law_all_points")) := let ⟨_, X, G⟩ := T.ns; He.glo_ok X G (T.says.d.fact 36)
theorem Txt.g__law_lowest : mg "_law_lowest" = some (.ref (He.ga K "_law_lowest")) := let ⟨_, X, G⟩ := T.ns; He.glo_ok X G (T.says.d.fact 37)
theorem Txt.g__law_near : mg "_law_near" = some (.ref (He.ga K "_law_near")) := let ⟨_, X, G⟩ := T.ns; He.glo_ok X G (T.says.d.fact 38)
theorem Txt.g__law_is_one : mg "_law_is_one" = some (.ref (He.ga K "_law_is_one")) := let ⟨_, X, G⟩ := T.ns; He.glo_ok X G (T.says.d.fact 39)
theorem Txt.g__law_expansions : mg "_law_expansions" = some (.ref (He.ga K "_law_expansions")) := let ⟨_, X, G⟩ := T.ns; He.glo_ok X G (T.says.d.fact 40)
theorem Txt.g__law_rivals : mg "_law_rivals" = some (.ref (He.ga K "_law_rivals")) := let ⟨_, X, G⟩ := T.ns; He.glo_ok X G (T.says.d.fact 41)
theorem Txt.g__law_answer : mg "_law_answer" = some (.ref (He.ga K "_law_answer")) := let ⟨_, X, G⟩ := T.ns; He.glo_ok X G (T.says.d.fact 42)
theorem Txt.g__law_body : mg "_law_body" = some (.ref (He.ga K "_law_body")) := let ⟨_, X, G⟩ := T.ns; He.glo_ok X G (T.says.d.fact 43)
theorem Txt.g__law_methods : mg "_law_methods" = some (.ref (He.ga K "_law_methods")) := let ⟨_, X, G⟩ := T.ns; He.glo_ok X G (T.says.d.fact 44)
theorem Txt.g__law_highest : mg "_law_highest" = some (.ref (He.ga K "_law_highest")) := let ⟨_, X, G⟩ := T.ns; He.glo_ok X G (T.says.d.fact 45)
theorem Txt.g__law_is_meet : mg "_law_is_meet" = some (.ref (He.ga K "_law_is_meet")) := let ⟨_, X, G⟩ := T.ns; He.glo_ok X G (T.says.d.fact 46)
theorem Txt.g__law_right : mg "_law_right" = some (.ref (He.ga K "_law_right")) := let ⟨_, X, G⟩ := T.ns; He.glo_ok X G (T.says.d.fact 47)
theorem Txt.g_law : mg "law" = some (.ref (He.ga K "law")) := let ⟨_, X, G⟩ := T.ns; He.glo_ok X G (T.says.d.fact 48)
theorem Txt.g_Hierarchy : mg "Hierarchy" = some (.ref (He.ga K "Hierarchy")) := let ⟨_, X, G⟩ := T.ns; He.glo_ok X G (T.says.d.fact 49)
theorem Txt.g_MethodTable : mg "MethodTable" = some (.ref (He.ga K "MethodTable")) := let ⟨_, X, G⟩ := T.ns; He.glo_ok X G (T.says.d.fact 50)
theorem Txt.g_NEXT_STEP : mg "NEXT_STEP" = some (.ref (He.ga K "NEXT_STEP")) := let ⟨_, X, G⟩ := T.ns; He.glo_ok X G (T.says.d.fact 51)
theorem Txt.len : mg "len" = none := let ⟨_, X, G⟩ := T.ns; He.free_ok X G (T.says.d.fact 52)
theorem Txt.isinstance : mg "isinstance" = none := let ⟨_, X, G⟩ := T.ns; He.free_ok X G (T.says.d.fact 53)
theorem Txt.all : mg "all" = none := let ⟨_, X, G⟩ := T.ns; He.free_ok X G (T.says.d.fact 54)
theorem Txt.any : mg "any" = none := let ⟨_, X, G⟩ := T.ns; He.free_ok X G (T.says.d.fact 55)
theorem Txt.tuple : mg "tuple" = none := let ⟨_, X, G⟩ := T.ns; He.free_ok X G (T.says.d.fact 56)
theorem Txt.list : mg "list" = none := let ⟨_, X, G⟩ := T.ns; He.free_ok X G (T.says.d.fact 57)
theorem Txt.dict : mg "dict" = none := let ⟨_, X, G⟩ := T.ns; He.free_ok X G (T.says.d.fact 58)
theorem Txt.str : mg "str" = none := let ⟨_, X, G⟩ := T.ns; He.free_ok X G (T.says.d.fact 59)
theorem Txt.int : mg "int" = none := let ⟨_, X, G⟩ := T.ns; He.free_ok X G (T.says.d.fact 60)
theorem Txt.bool : mg "bool" = none := let ⟨_, X, G⟩ := T.ns; He.free_ok X G (T.says.d.fact 61)
theorem Txt.range : mg "range" = none := let ⟨_, X, G⟩ := T.ns; He.free_ok X G (T.says.d.fact 62)
theorem Txt.enumerate : mg "enumerate" = none := let ⟨_, X, G⟩ := T.ns; He.free_ok X G (T.says.d.fact 63)
theorem Txt.zip : mg "zip" = none := let ⟨_, X, G⟩ := T.ns; He.free_ok X G (T.says.d.fact 64)
theorem Txt.sorted : mg "sorted" = none := let ⟨_, X, G⟩ := T.ns; He.free_ok X G (T.says.d.fact 65)
theorem Txt.divmod : mg "divmod" = none := let ⟨_, X, G⟩ := T.ns; He.free_ok X G (T.says.d.fact 66)
theorem Txt.repr : mg "repr" = none := let ⟨_, X, G⟩ := T.ns; He.free_ok X G (T.says.d.fact 67)
theorem Txt.abs : mg "abs" = none := let ⟨_, X, G⟩ := T.ns; He.free_ok X G (T.says.d.fact 68)
theorem Txt.max : mg "max" = none := let ⟨_, X, G⟩ := T.ns; He.free_ok X G (T.says.d.fact 69)
theorem Txt.min : mg "min" = none := let ⟨_, X, G⟩ := T.ns; He.free_ok X G (T.says.d.fact 70)
theorem Txt.g_MAX_NAME_LENGTH : ∃ t, mg "MAX_NAME_LENGTH" = some (.int 8 t) := let ⟨_, X, G⟩ := T.ns; He.int_ok X G (T.says.d.fact 71)
theorem Txt.g_MAX_PARAMETERS : ∃ t, mg "MAX_PARAMETERS" = some (.int 3 t) := let ⟨_, X, G⟩ := T.ns; He.int_ok X G (T.says.d.fact 72)
theorem Txt.g_LETTERS : ∃ t, mg "LETTERS" = some (.str "abcdefghijklmnopqrstuvwxyz" t) := let ⟨_, X, G⟩ := T.ns; He.str_ok X G (T.says.d.fact 73)
theorem Txt.g_SAY : ∃ t, mg "SAY" = some (.str "say" t) := let ⟨_, X, G⟩ := T.ns; He.str_ok X G (T.says.d.fact 74)
theorem Txt.g_NONE : ∃ t, mg "NONE" = some (.str "none" t) := let ⟨_, X, G⟩ := T.ns; He.str_ok X G (T.says.d.fact 75)
theorem Txt.g_ANSWERED : ∃ t, mg "ANSWERED" = some (.str "answered" t) := let ⟨_, X, G⟩ := T.ns; He.str_ok X G (T.says.d.fact 76)
theorem Txt.g_AMBIGUOUS_calls : ∃ t, mg "AMBIGUOUS_calls" = some (.str "ambiguous" t) := let ⟨_, X, G⟩ := T.ns; He.str_ok X G (T.says.d.fact 77)
theorem Txt.g_AMBIGUOUS_conflicts : ∃ t, mg "AMBIGUOUS_conflicts" = some (.str "ambiguous" t) := let ⟨_, X, G⟩ := T.ns; He.str_ok X G (T.says.d.fact 78)
theorem Txt.cls_Hierarchy : Cls K (He.ga K "Hierarchy") := He.cls_ok (T.says.d.fact 79)
theorem Txt.mk_Hierarchy : Mk K (He.ga K "Hierarchy") (He.ma K (He.ga K "Hierarchy") "__init__") := He.mkr_ok (T.says.d.fact 80)
theorem Txt.no_superclasses_by_class : NoAttr K (He.ga K "Hierarchy") "superclasses_by_class" := He.noat_ok (T.says.d.fact 81)
theorem Txt.no_ancestors_by_class : NoAttr K (He.ga K "Hierarchy") "ancestors_by_class" := He.noat_ok (T.says.d.fact 82)
theorem Txt.cls_MethodTable : Cls K (He.ga K "MethodTable") := He.cls_ok (T.says.d.fact 83)
theorem Txt.mk_MethodTable : Mk K (He.ga K "MethodTable") (He.ma K (He.ga K "MethodTable") "__init__") := He.mkr_ok (T.says.d.fact 84)
theorem Txt.no_class_order : NoAttr K (He.ga K "MethodTable") "class_order" := He.noat_ok (T.says.d.fact 85)
theorem Txt.no_parameter_count : NoAttr K (He.ga K "MethodTable") "parameter_count" := He.noat_ok (T.says.d.fact 86)
theorem Txt.no_bodies : NoAttr K (He.ga K "MethodTable") "bodies" := He.noat_ok (T.says.d.fact 87)
theorem Txt.no_next_steps : NoAttr K (He.ga K "MethodTable") "next_steps" := He.noat_ok (T.says.d.fact 88)
theorem Txt.no_expanded : NoAttr K (He.ga K "MethodTable") "expanded" := He.noat_ok (T.says.d.fact 89)
theorem Txt.m_MethodTable_expand : Meth K (He.ga K "MethodTable") "expand" (He.ma K (He.ga K "MethodTable") "expand") := He.meth_ok (T.says.d.fact 90)
theorem Txt.m_MethodTable_common_expansion : Meth K (He.ga K "MethodTable") "common_expansion" (He.ma K (He.ga K "MethodTable") "common_expansion") := He.meth_ok (T.says.d.fact 91)
theorem Txt.m_MethodTable_applicable_at : Meth K (He.ga K "MethodTable") "applicable_at" (He.ma K (He.ga K "MethodTable") "applicable_at") := He.meth_ok (T.says.d.fact 92)
theorem Txt.m_MethodTable_rivals_at : Meth K (He.ga K "MethodTable") "rivals_at" (He.ma K (He.ga K "MethodTable") "rivals_at") := He.meth_ok (T.says.d.fact 93)
theorem Txt.m_MethodTable_just_above_at : Meth K (He.ga K "MethodTable") "just_above_at" (He.ma K (He.ga K "MethodTable") "just_above_at") := He.meth_ok (T.says.d.fact 94)
theorem Txt.m_MethodTable_is_own_point : Meth K (He.ga K "MethodTable") "is_own_point" (He.ma K (He.ga K "MethodTable") "is_own_point") := He.meth_ok (T.says.d.fact 95)
theorem Txt.m_MethodTable_hierarchy : Meth K (He.ga K "MethodTable") "hierarchy" (He.ma K (He.ga K "MethodTable") "hierarchy") := He.meth_ok (T.says.d.fact 96)
theorem Txt.m_MethodTable_points : Meth K (He.ga K "MethodTable") "points" (He.ma K (He.ga K "MethodTable") "points") := He.meth_ok (T.says.d.fact 97)
theorem Txt.m_Hierarchy_ancestors_of_new : Meth K (He.ga K "Hierarchy") "ancestors_of_new" (He.ma K (He.ga K "Hierarchy") "ancestors_of_new") := He.meth_ok (T.says.d.fact 98)
theorem Txt.m_Hierarchy_require_class : Meth K (He.ga K "Hierarchy") "require_class" (He.ma K (He.ga K "Hierarchy") "require_class") := He.meth_ok (T.says.d.fact 99)
theorem Txt.m_Hierarchy_names : Meth K (He.ga K "Hierarchy") "names" (He.ma K (He.ga K "Hierarchy") "names") := He.meth_ok (T.says.d.fact 100)
theorem Txt.m_Hierarchy_has_class : Meth K (He.ga K "Hierarchy") "has_class" (He.ma K (He.ga K "Hierarchy") "has_class") := He.meth_ok (T.says.d.fact 101)
theorem Txt.m_Hierarchy_position_of : Meth K (He.ga K "Hierarchy") "position_of" (He.ma K (He.ga K "Hierarchy") "position_of") := He.meth_ok (T.says.d.fact 102)
theorem Txt.m_Hierarchy_is_at_or_below : Meth K (He.ga K "Hierarchy") "is_at_or_below" (He.ma K (He.ga K "Hierarchy") "is_at_or_below") := He.meth_ok (T.says.d.fact 103)
theorem Txt.m_Hierarchy_descendants : Meth K (He.ga K "Hierarchy") "descendants" (He.ma K (He.ga K "Hierarchy") "descendants") := He.meth_ok (T.says.d.fact 104)
theorem Txt.m_Hierarchy_highest_common : Meth K (He.ga K "Hierarchy") "highest_common" (He.ma K (He.ga K "Hierarchy") "highest_common") := He.meth_ok (T.says.d.fact 105)
theorem Txt.d_is_name : ∃ fd, FunD K "is_name" "is_name" (defArgs st_is_name) (defBody st_is_name) (defScope st_is_name) [] [] (He.ga K "is_name") fd := T.says.d.def_ 0
theorem Txt.d_is_step : ∃ fd, FunD K "is_step" "is_step" (defArgs st_is_step) (defBody st_is_step) (defScope st_is_step) [] [] (He.ga K "is_step") fd := T.says.d.def_ 1
theorem Txt.d_is_body : ∃ fd, FunD K "is_body" "is_body" (defArgs st_is_body) (defBody st_is_body) (defScope st_is_body) [] [] (He.ga K "is_body") fd := T.says.d.def_ 2
theorem Txt.d_has_next_step : ∃ fd, FunD K "has_next_step" "has_next_step" (defArgs st_has_next_step) (defBody st_has_next_step) (defScope st_has_next_step) [] [] (He.ga K "has_next_step") fd := T.says.d.def_ 3
theorem Txt.d_replace_next : ∃ fd, FunD K "replace_next" "replace_next" (defArgs st_replace_next) (defBody st_replace_next) (defScope st_replace_next) [] [] (He.ga K "replace_next") fd := T.says.d.def_ 4
theorem Txt.d_is_count : ∃ fd, FunD K "is_count" "is_count" (defArgs st_is_count) (defBody st_is_count) (defScope st_is_count) [] [] (He.ga K "is_count") fd := T.says.d.def_ 5
theorem Txt.d_is_point : ∃ fd, FunD K "is_point" "is_point" (defArgs st_is_point) (defBody st_is_point) (defScope st_is_point) [] [] (He.ga K "is_point") fd := T.says.d.def_ 6
theorem Txt.d_require_point_points : ∃ fd, FunD K "require_point" "require_point" (defArgs st_require_point_points) (defBody st_require_point_points) (defScope st_require_point_points) [] [] (He.ga K "require_point_points") fd := T.says.d.def_ 7
theorem Txt.d_require_alike_points : ∃ fd, FunD K "require_alike_points" "require_alike_points" (defArgs st_require_alike_points) (defBody st_require_alike_points) (defScope st_require_alike_points) [] [] (He.ga K "require_alike_points") fd := T.says.d.def_ 8
theorem Txt.d_lies_at_or_below : ∃ fd, FunD K "lies_at_or_below" "lies_at_or_below" (defArgs st_lies_at_or_below) (defBody st_lies_at_or_below) (defScope st_lies_at_or_below) [] [] (He.ga K "lies_at_or_below") fd := T.says.d.def_ 9
theorem Txt.d_require_points : ∃ fd, FunD K "require_points" "require_points" (defArgs st_require_points) (defBody st_require_points) (defScope st_require_points) [] [] (He.ga K "require_points") fd := T.says.d.def_ 10
theorem Txt.d_in_order : ∃ fd, FunD K "in_order" "in_order" (defArgs st_in_order) (defBody st_in_order) (defScope st_in_order) [] [] (He.ga K "in_order") fd := T.says.d.def_ 11
theorem Txt.d_listed : ∃ fd, FunD K "listed" "listed" (defArgs st_listed) (defBody st_listed) (defScope st_listed) [] [] (He.ga K "listed") fd := T.says.d.def_ 12
theorem Txt.d_highest : ∃ fd, FunD K "highest" "highest" (defArgs st_highest) (defBody st_highest) (defScope st_highest) [] [] (He.ga K "highest") fd := T.says.d.def_ 13
theorem Txt.d_lowest : ∃ fd, FunD K "lowest" "lowest" (defArgs st_lowest) (defBody st_lowest) (defScope st_lowest) [] [] (He.ga K "lowest") fd := T.says.d.def_ 14
theorem Txt.d_combined : ∃ fd, FunD K "combined" "combined" (defArgs st_combined) (defBody st_combined) (defScope st_combined) [] [] (He.ga K "combined") fd := T.says.d.def_ 15
theorem Txt.d_highest_common_points : ∃ fd, FunD K "highest_common_points" "highest_common_points" (defArgs st_highest_common_points) (defBody st_highest_common_points) (defScope st_highest_common_points) [] [] (He.ga K "highest_common_points") fd := T.says.d.def_ 16
theorem Txt.d_require_point_calls : ∃ fd, FunD K "require_point" "require_point" (defArgs st_require_point_calls) (defBody st_require_point_calls) (defScope st_require_point_calls) [] [] (He.ga K "require_point_calls") fd := T.says.d.def_ 17
theorem Txt.d_rivals : ∃ fd, FunD K "rivals" "rivals" (defArgs st_rivals) (defBody st_rivals) (defScope st_rivals) [] [] (He.ga K "rivals") fd := T.says.d.def_ 18
theorem Txt.d_status : ∃ fd, FunD K "status" "status" (defArgs st_status) (defBody st_status) (defScope st_status) [] [] (He.ga K "status") fd := T.says.d.def_ 19
theorem Txt.d_is_point_of_length : ∃ fd, FunD K "is_point_of_length" "is_point_of_length" (defArgs st_is_point_of_length) (defBody st_is_point_of_length) (defScope st_is_point_of_length) [] [] (He.ga K "is_point_of_length") fd := T.says.d.def_ 20
theorem Txt.d_require_methods : ∃ fd, FunD K "require_methods" "require_methods" (defArgs st_require_methods) (defBody st_require_methods) (defScope st_require_methods) [] [] (He.ga K "require_methods") fd := T.says.d.def_ 21
theorem Txt.d_ambiguous_commons : ∃ fd, FunD K "ambiguous_commons" "ambiguous_commons" (defArgs st_ambiguous_commons) (defBody st_ambiguous_commons) (defScope st_ambiguous_commons) [] [] (He.ga K "ambiguous_commons") fd := T.says.d.def_ 22
theorem Txt.d_conflicts : ∃ fd, FunD K "conflicts" "conflicts" (defArgs st_conflicts) (defBody st_conflicts) (defScope st_conflicts) [] [] (He.ga K "conflicts") fd := T.says.d.def_ 23
theorem Txt.d_is_settled : ∃ fd, FunD K "is_settled" "is_settled" (defArgs st_is_settled) (defBody st_is_settled) (defScope st_is_settled) [] [] (He.ga K "is_settled") fd := T.says.d.def_ 24
theorem Txt.d_are_different_classes : ∃ fd, FunD K "are_different_classes" "are_different_classes" (defArgs st_are_different_classes) (defBody st_are_different_classes) (defScope st_are_different_classes) [] [] (He.ga K "are_different_classes") fd := T.says.d.def_ 25
theorem Txt.d_element_problem : ∃ fd, FunD K "element_problem" "element_problem" (defArgs st_element_problem) (defBody st_element_problem) (defScope st_element_problem) [] [] (He.ga K "element_problem") fd := T.says.d.def_ 26
theorem Txt.d__law_pot : ∃ fd, FunD K "_law_pot" "_law_pot" (defArgs st__law_pot) (defBody st__law_pot) (defScope st__law_pot) [] [] (He.ga K "_law_pot") fd := T.says.d.def_ 27
theorem Txt.d__law_draw : ∃ fd, FunD K "_law_draw" "_law_draw" (defArgs st__law_draw) (defBody st__law_draw) (defScope st__law_draw) [] [] (He.ga K "_law_draw") fd := T.says.d.def_ 28
theorem Txt.d__law_mixed : ∃ fd, FunD K "_law_mixed" "_law_mixed" (defArgs st__law_mixed) (defBody st__law_mixed) (defScope st__law_mixed) [] [] (He.ga K "_law_mixed") fd := T.says.d.def_ 29
theorem Txt.d__law_name : ∃ fd, FunD K "_law_name" "_law_name" (defArgs st__law_name) (defBody st__law_name) (defScope st__law_name) [] [] (He.ga K "_law_name") fd := T.says.d.def_ 30
theorem Txt.d__law_names : ∃ fd, FunD K "_law_names" "_law_names" (defArgs st__law_names) (defBody st__law_names) (defScope st__law_names) [] [] (He.ga K "_law_names") fd := T.says.d.def_ 31
theorem Txt.d__law_kinds : ∃ fd, FunD K "_law_kinds" "_law_kinds" (defArgs st__law_kinds) (defBody st__law_kinds) (defScope st__law_kinds) [] [] (He.ga K "_law_kinds") fd := T.says.d.def_ 32
theorem Txt.d__law_above : ∃ fd, FunD K "_law_above" "_law_above" (defArgs st__law_above) (defBody st__law_above) (defScope st__law_above) [] [] (He.ga K "_law_above") fd := T.says.d.def_ 33
theorem Txt.d__law_ups : ∃ fd, FunD K "_law_ups" "_law_ups" (defArgs st__law_ups) (defBody st__law_ups) (defScope st__law_ups) [] [] (He.ga K "_law_ups") fd := T.says.d.def_ 34
theorem Txt.d__law_is_under : ∃ fd, FunD K "_law_is_under" "_law_is_under" (defArgs st__law_is_under) (defBody st__law_is_under) (defScope st__law_is_under) [] [] (He.ga K "_law_is_under") fd := T.says.d.def_ 35
theorem Txt.d__law_all_points : ∃ fd, FunD K "_law_all_points" "_law_all_points" (defArgs st__law_all_points) (defBody st__law_all_points) (defScope st__law_all_points) [] [] (He.ga K "_law_all_points") fd := T.says.d.def_ 36
theorem Txt.d__law_lowest : ∃ fd, FunD K "_law_lowest" "_law_lowest" (defArgs st__law_lowest) (defBody st__law_lowest) (defScope st__law_lowest) [] [] (He.ga K "_law_lowest") fd := T.says.d.def_ 37
theorem Txt.d__law_near : ∃ fd, FunD K "_law_near" "_law_near" (defArgs st__law_near) (defBody st__law_near) (defScope st__law_near) [] [] (He.ga K "_law_near") fd := T.says.d.def_ 38
theorem Txt.d__law_is_one : ∃ fd, FunD K "_law_is_one" "_law_is_one" (defArgs st__law_is_one) (defBody st__law_is_one) (defScope st__law_is_one) [] [] (He.ga K "_law_is_one") fd := T.says.d.def_ 39
theorem Txt.d__law_expansions : ∃ fd, FunD K "_law_expansions" "_law_expansions" (defArgs st__law_expansions) (defBody st__law_expansions) (defScope st__law_expansions) [] [] (He.ga K "_law_expansions") fd := T.says.d.def_ 40
theorem Txt.d__law_rivals : ∃ fd, FunD K "_law_rivals" "_law_rivals" (defArgs st__law_rivals) (defBody st__law_rivals) (defScope st__law_rivals) [] [] (He.ga K "_law_rivals") fd := T.says.d.def_ 41
theorem Txt.d__law_answer : ∃ fd, FunD K "_law_answer" "_law_answer" (defArgs st__law_answer) (defBody st__law_answer) (defScope st__law_answer) [] [] (He.ga K "_law_answer") fd := T.says.d.def_ 42
theorem Txt.d__law_body : ∃ fd, FunD K "_law_body" "_law_body" (defArgs st__law_body) (defBody st__law_body) (defScope st__law_body) [] [] (He.ga K "_law_body") fd := T.says.d.def_ 43
theorem Txt.d__law_methods : ∃ fd, FunD K "_law_methods" "_law_methods" (defArgs st__law_methods) (defBody st__law_methods) (defScope st__law_methods) [] [] (He.ga K "_law_methods") fd := T.says.d.def_ 44
theorem Txt.d__law_highest : ∃ fd, FunD K "_law_highest" "_law_highest" (defArgs st__law_highest) (defBody st__law_highest) (defScope st__law_highest) [] [] (He.ga K "_law_highest") fd := T.says.d.def_ 45
theorem Txt.d__law_is_meet : ∃ fd, FunD K "_law_is_meet" "_law_is_meet" (defArgs st__law_is_meet) (defBody st__law_is_meet) (defScope st__law_is_meet) [] [] (He.ga K "_law_is_meet") fd := T.says.d.def_ 46
theorem Txt.d__law_right : ∃ fd, FunD K "_law_right" "_law_right" (defArgs st__law_right) (defBody st__law_right) (defScope st__law_right) [] [] (He.ga K "_law_right") fd := T.says.d.def_ 47
theorem Txt.d_law : ∃ fd, FunD K "law" "law" (defArgs st_law) (defBody st_law) (defScope st_law) [] [] (He.ga K "law") fd := T.says.d.def_ 48
theorem Txt.d_MethodTable___init__ : ∃ fd, FunD K "__init__" "MethodTable.__init__" (defArgs st_MethodTable___init__) (defBody st_MethodTable___init__) (defScope st_MethodTable___init__) [V.non] [] (He.ma K (He.ga K "MethodTable") "__init__") fd := T.says.d.def_ 49
theorem Txt.d_MethodTable_expand : ∃ fd, FunD K "expand" "MethodTable.expand" (defArgs st_MethodTable_expand) (defBody st_MethodTable_expand) (defScope st_MethodTable_expand) [] [] (He.ma K (He.ga K "MethodTable") "expand") fd := T.says.d.def_ 50
theorem Txt.d_MethodTable_common_expansion : ∃ fd, FunD K "common_expansion" "MethodTable.common_expansion" (defArgs st_MethodTable_common_expansion) (defBody st_MethodTable_common_expansion) (defScope st_MethodTable_common_expansion) [] [] (He.ma K (He.ga K "MethodTable") "common_expansion") fd := T.says.d.def_ 51
theorem Txt.d_MethodTable_applicable_at : ∃ fd, FunD K "applicable_at" "MethodTable.applicable_at" (defArgs st_MethodTable_applicable_at) (defBody st_MethodTable_applicable_at) (defScope st_MethodTable_applicable_at) [] [] (He.ma K (He.ga K "MethodTable") "applicable_at") fd := T.says.d.def_ 52
theorem Txt.d_MethodTable_rivals_at : ∃ fd, FunD K "rivals_at" "MethodTable.rivals_at" (defArgs st_MethodTable_rivals_at) (defBody st_MethodTable_rivals_at) (defScope st_MethodTable_rivals_at) [] [] (He.ma K (He.ga K "MethodTable") "rivals_at") fd := T.says.d.def_ 53
theorem Txt.d_MethodTable_just_above_at : ∃ fd, FunD K "just_above_at" "MethodTable.just_above_at" (defArgs st_MethodTable_just_above_at) (defBody st_MethodTable_just_above_at) (defScope st_MethodTable_just_above_at) [] [] (He.ma K (He.ga K "MethodTable") "just_above_at") fd := T.says.d.def_ 54
theorem Txt.d_MethodTable_is_own_point : ∃ fd, FunD K "is_own_point" "MethodTable.is_own_point" (defArgs st_MethodTable_is_own_point) (defBody st_MethodTable_is_own_point) (defScope st_MethodTable_is_own_point) [] [] (He.ma K (He.ga K "MethodTable") "is_own_point") fd := T.says.d.def_ 55
theorem Txt.d_MethodTable_hierarchy : ∃ fd, FunD K "hierarchy" "MethodTable.hierarchy" (defArgs st_MethodTable_hierarchy) (defBody st_MethodTable_hierarchy) (defScope st_MethodTable_hierarchy) [] [] (He.ma K (He.ga K "MethodTable") "hierarchy") fd := T.says.d.def_ 56
theorem Txt.d_MethodTable_points : ∃ fd, FunD K "points" "MethodTable.points" (defArgs st_MethodTable_points) (defBody st_MethodTable_points) (defScope st_MethodTable_points) [] [] (He.ma K (He.ga K "MethodTable") "points") fd := T.says.d.def_ 57
theorem Txt.d_Hierarchy___init__ : ∃ fd, FunD K "__init__" "Hierarchy.__init__" (defArgs st_Hierarchy___init__) (defBody st_Hierarchy___init__) (defScope st_Hierarchy___init__) [V.ref (He.dflAt ("Hierarchy", some "__init__") 0 K)] [] (He.ma K (He.ga K "Hierarchy") "__init__") fd := T.says.d.def_ 58
theorem Txt.d_Hierarchy_ancestors_of_new : ∃ fd, FunD K "ancestors_of_new" "Hierarchy.ancestors_of_new" (defArgs st_Hierarchy_ancestors_of_new) (defBody st_Hierarchy_ancestors_of_new) (defScope st_Hierarchy_ancestors_of_new) [] [] (He.ma K (He.ga K "Hierarchy") "ancestors_of_new") fd := T.says.d.def_ 59
theorem Txt.d_Hierarchy_require_class : ∃ fd, FunD K "require_class" "Hierarchy.require_class" (defArgs st_Hierarchy_require_class) (defBody st_Hierarchy_require_class) (defScope st_Hierarchy_require_class) [] [] (He.ma K (He.ga K "Hierarchy") "require_class") fd := T.says.d.def_ 60
theorem Txt.d_Hierarchy_names : ∃ fd, FunD K "names" "Hierarchy.names" (defArgs st_Hierarchy_names) (defBody st_Hierarchy_names) (defScope st_Hierarchy_names) [] [] (He.ma K (He.ga K "Hierarchy") "names") fd := T.says.d.def_ 61
theorem Txt.d_Hierarchy_has_class : ∃ fd, FunD K "has_class" "Hierarchy.has_class" (defArgs st_Hierarchy_has_class) (defBody st_Hierarchy_has_class) (defScope st_Hierarchy_has_class) [] [] (He.ma K (He.ga K "Hierarchy") "has_class") fd := T.says.d.def_ 62
theorem Txt.d_Hierarchy_position_of : ∃ fd, FunD K "position_of" "Hierarchy.position_of" (defArgs st_Hierarchy_position_of) (defBody st_Hierarchy_position_of) (defScope st_Hierarchy_position_of) [] [] (He.ma K (He.ga K "Hierarchy") "position_of") fd := T.says.d.def_ 63
theorem Txt.d_Hierarchy_is_at_or_below : ∃ fd, FunD K "is_at_or_below" "Hierarchy.is_at_or_below" (defArgs st_Hierarchy_is_at_or_below) (defBody st_Hierarchy_is_at_or_below) (defScope st_Hierarchy_is_at_or_below) [] [] (He.ma K (He.ga K "Hierarchy") "is_at_or_below") fd := T.says.d.def_ 64
theorem Txt.d_Hierarchy_descendants : ∃ fd, FunD K "descendants" "Hierarchy.descendants" (defArgs st_Hierarchy_descendants) (defBody st_Hierarchy_descendants) (defScope st_Hierarchy_descendants) [] [] (He.ma K (He.ga K "Hierarchy") "descendants") fd := T.says.d.def_ 65
theorem Txt.d_Hierarchy_highest_common : ∃ fd, FunD K "highest_common" "Hierarchy.highest_common" (defArgs st_Hierarchy_highest_common) (defBody st_Hierarchy_highest_common) (defScope st_Hierarchy_highest_common) [] [] (He.ma K (He.ga K "Hierarchy") "highest_common") fd := T.says.d.def_ 66
end
end FM

/-! ## FHead -/
set_option Elab.async false
set_option linter.all false
set_option maxRecDepth 100000
set_option maxHeartbeats 0
/-! The run of the top (printed by genhead2.py). -/
namespace FM
open PySem PySem.Spec PyProof.Rows L2
abbrev R0 : PySem.W.OpenRow := PySem.W.OpenLaw.row PySem.Challenge.rw_fewestmethods_k51_whole_conflicts_by_all
def loose0 : List PySem.Str := ["_wall", "LETTERS", "MAX_NAME_LENGTH", "is_name", "SAY", "CALL", "NEXT_STEP", "MAX_ARGUMENTS", "is_index", "are_arguments", "is_step", "is_body", "has_next_step", "replace_next", "MethodsError", "InvalidHierarchy", "InvalidName", "InvalidSuperclasses", "InvalidText", "InvalidPoint", "InvalidPoints", "InvalidCount", "InvalidMethods", "NotFound", "NoNext", "NameTaken", "TooMany", "MAX_PARAMETERS", "is_count", "is_point"]
def loose1 : List PySem.Str := ["require_point", "require_point_points", "require_alike_points", "lies_at_or_below", "require_points", "in_order", "listed", "highest", "lowest", "combined", "highest_common_points", "NONE", "ANSWERED", "AMBIGUOUS_calls", "require_point_calls", "rivals", "status", "is_point_of_length", "require_methods", "MethodTable", "AMBIGUOUS_conflicts", "ambiguous_commons", "conflicts", "is_settled", "are_different_classes", "element_problem", "split_lines", "with_line", "Hierarchy", "_law_pot"]
def loose2 : List PySem.Str := ["_law_draw", "_law_mixed", "_law_name", "_law_names", "_law_kinds", "_law_above", "_law_ups", "_law_is_under", "_law_all_points", "_law_lowest", "_law_near", "_law_is_one", "_law_expansions", "_law_rivals", "_law_answer", "_law_body", "_law_methods", "_law_highest", "_law_is_meet", "_law_right"]
def loose : List PySem.Str := loose0 ++ loose1 ++ loose2
abbrev hkR : PySem.W.Hook := hookF 5
def obR (s : PySem.W.SharedT) : AlF := obsG 5 (HandSHeadRun.getT s)
theorem obR_eq (s : PySem.W.SharedT) : obR s = hkR.obs s.abs := obsG_eq (HandSHeadRun.getT_eq s)
open HandSHeadRun PySem.W PySem.Calls in
/-- the run, what it leaves looked at in two goes -/
theorem run_a (w : World) (os : OsState) : (endF (stepQ (denQ tabQ) R0.prog w) 40000 R0.prog w os).map (fun s => (looksF R0.prog (boot_heap w.params) s.abs, seenQ (PySem.W.view R0.prog [90]) loose (importedModules R0.prog.main.body) (fun s => xlAt (PySem.W.view R0.prog [90]) [] s && recOk R0.toRowW.records s) s.abs)) = some (true, openGood (PySem.W.view R0.prog [90]) loose) := by
  kernel_rfl
open HandSHeadRun PySem.W PySem.Calls in
theorem run_b (w : World) (os : OsState) : (endF (stepQ (denQ tabQ) R0.prog w) 40000 R0.prog w os).map obR = some (hkR.val w) := by
  kernel_rfl
theorem two_goes {α β γ δ : Type} {o : Option α} {f : α → β} {g : α → γ} {h : α → δ} {x : β} {y : γ} {z : δ} (a : o.map (fun s => (f s, g s)) = some (x, y)) (b : o.map h = some z) : o.map (fun s => (f s, g s, h s)) = some (x, y, z) := by
  cases o with
  | none => cases a
  | some s =>
    have a1 : (f s, g s) = (x, y) := Option.some.inj a
    have b1 : h s = z := Option.some.inj b
    show some (f s, g s, h s) = _
    rw [← b1, ← (Prod.mk.inj a1).1, ← (Prod.mk.inj a1).2]
theorem run (w : World) : HandSHeadRun.RunEq R0 (PySem.W.view R0.prog [90]) hkR obR 40000 loose w := fun os => two_goes (run_a w os) (run_b w os)
end FM

/-! ## FTerm -/
set_option Elab.async false
set_option linter.all false
set_option maxRecDepth 100000
set_option maxHeartbeats 2000000
/-! Calls of the program's own defs by their promises; constants; all, any, len, list, tuple. -/
namespace FM
open PySem PySem.Spec PyProof.Rows L2
open Evl (Ex EvT Ev)

/-- the module's def x keeps the promise sp -/
structure GFn (P : Program) (w : World) (K : PySem.W.Frag) (mg : Str → Option Value) (base : Heap) (x : Str) (k : Nat) (sp : Sp) : Prop where
  ex : ∃ f fd ps, mg x = some (.ref f) ∧ PySem.W.keepIn K (.ref f) = true ∧ FnOk P w K mg base CX0 k f fd ps sp ∧ Binds K fd ps []
/-- the method m of the class C -/
structure GMt (P : Program) (w : World) (K : PySem.W.Frag) (mg : Str → Option Value) (base : Heap) (C m : Str) (k : Nat) (sp : Sp) : Prop where
  ex : ∃ f fd ps, Cls K (He.ga K C) ∧ Meth K (He.ga K C) m f ∧ FnOk P w K mg base CX0 k f fd ps sp ∧ Binds K fd ps []
/-- making an instance of the class C -/
structure GMk (P : Program) (w : World) (K : PySem.W.Frag) (mg : Str → Option Value) (base : Heap) (C : Str) (k : Nat) (sp : Sp) : Prop where
  ex : ∃ f fd ps, mg C = some (.ref (He.ga K C)) ∧ Mk K (He.ga K C) f ∧ FnOk P w K mg base CX0 k f fd ps sp ∧ Binds K fd ps []
section
variable {X : Cx} {x C m : Str} {k j : Nat} {sp : Sp} {e o : Expr} {es : List Expr} {t : TA} {ta : TE} {p pos apos : Pos}
theorem pcall (G : GFn X.prog X.w X.K X.mg X.base x k sp) (hr : Room j X.A) (ha : PA X (e :: es) t) (hkj : k ≤ j := by decide) (hg : Gl X x := by rfl) (hdb : (x == ("__debug__" : Str)) = false := by decide)
    (he : starEach (e :: es) X.env = (false, eval e X.env) :: starEach es X.env := by rfl) (hpl : (backTo pos (starEach es X.env)).any (·.1) = false := by rfl) : PE X (.Call (.Name x p) (e :: es) [] pos) (tCall sp [] E0 t) := by
  obtain ⟨f, fd, ps, h1, h2, h3, h4⟩ := G.ex
  exact pe_call h3 (hr.mono hkj) hg h1 h2 h4 .nil pass0 ha hdb he hpl
theorem pmeth {pl : Sem Bool} (G : GMt X.prog X.w X.K X.mg X.base C m k sp) (hr : Room j X.A) (ho : PE X o ta) (ha : PA X (e :: es) t) (hkj : k ≤ j := by decide)
    (hst : starEach (e :: es) X.env = (false, eval e X.env) :: starEach es X.env := by rfl) (hpl : (backTo pos (starEach es X.env)).any (·.1) = false := by rfl)
    (ht : eval (.Call (.Attribute o m apos) (e :: es) [] pos) X.env = (do
      let ov ← eval o X.env
      standAt apos.atName
      let (f, first) ← holding [ov] (getMethod ov m pl)
      callWith pos f first (backTo pos (starEach (e :: es) X.env)) (backToKw pos (keywordEach [] X.env))) := by rfl) :
    PE X (.Call (.Attribute o m apos) (e :: es) [] pos) (tMeth (He.ga X.K C) m sp [] E0 ta t) := by
  obtain ⟨f, fd, ps, h1, h2, h3, h4⟩ := G.ex
  exact pe_meth ho h1 h2 h3 (hr.mono hkj) h4 .nil pass0 ha hst hpl ht
theorem pmeth0 {pl : Sem Bool} (G : GMt X.prog X.w X.K X.mg X.base C m k sp) (hr : Room j X.A) (ho : PE X o ta) (hkj : k ≤ j := by decide)
    (ht : eval (.Call (.Attribute o m apos) [] [] pos) X.env = (do
      let ov ← eval o X.env
      standAt apos.atName
      let (f, first) ← holding [ov] (getMethod ov m pl)
      callWith pos f first (backTo pos (starEach [] X.env)) (backToKw pos (keywordEach [] X.env))) := by rfl) :
    PE X (.Call (.Attribute o m apos) [] [] pos) (tMeth (He.ga X.K C) m sp [] E0 ta tNil) := by
  obtain ⟨f, fd, ps, h1, h2, h3, h4⟩ := G.ex
  exact pe_meth0 ho h1 h2 h3 (hr.mono hkj) h4 .nil pass0 ht
theorem pmake (G : GMk X.prog X.w X.K X.mg X.base C k sp) (hr : Room j X.A) (ha : PA X (e :: es) t) (hkj : k + 1 ≤ j := by decide) (hg : Gl X C := by rfl) (hdb : (C == ("__debug__" : Str)) = false := by decide)
    (he : starEach (e :: es) X.env = (false, eval e X.env) :: starEach es X.env := by rfl) (hpl : (backTo pos (starEach es X.env)).any (·.1) = false := by rfl) : PE X (.Call (.Name C p) (e :: es) [] pos) (tMake (He.ga X.K C) sp [] E0 t) := by
  obtain ⟨f, fd, ps, h1, h2, h3, h4⟩ := G.ex
  exact pe_make h2 h3 (hr.mono hkj) hg h1 h4 .nil pass0 ha hdb he hpl
theorem pgI {i : Int} (h : ∃ t, X.mg x = some (.int i t)) (hg : Gl X x := by rfl) (hd : (x == ("__debug__" : Str)) = false := by decide) : PE X (.Name x pos) (tC (.int i)) := by
  obtain ⟨t, e⟩ := h
  exact pe_glob hg e ⟨t, rfl⟩ hd
theorem pgS {z : Str} (h : ∃ t, X.mg x = some (.str z t)) (hg : Gl X x := by rfl) (hd : (x == ("__debug__" : Str)) = false := by decide) : PE X (.Name x pos) (tC (.str z)) := by
  obtain ⟨t, e⟩ := h
  exact pe_glob hg e ⟨t, rfl⟩ hd
theorem pgR {a : Addr} (h : X.mg x = some (.ref a)) (hg : Gl X x := by rfl) (hd : (x == ("__debug__" : Str)) = false := by decide) : PE X (.Name x pos) (tC (.ref a)) := pe_glob hg h rfl hd
end

/-! what built-ins come to -/
def rBool : Rdr Bool := fun _ v b => v = .bl b
instance : MoT rBool := ⟨fun _ h => h⟩
instance : MonoW rBool := ⟨fun _ h => h⟩
theorem bools_of {H : Hp} {vs : List V} {xs : List Bool} (h : Paired (rBool H) vs xs) : vs = xs.map V.bl := by
  induction h with
  | nil => rfl
  | cons r t ih => rw [show _ = _ from r, ih]; rfl
theorem ints_of {H : Hp} {vs : List V} {xs : List Int} (h : Paired (rInt H) vs xs) : vs = xs.map V.int := by
  induction h with
  | nil => rfl
  | cons r t ih => rw [show _ = _ from r, ih]; rfl
section
variable {K : PySem.W.Frag} {σ : L2.St} {H : Hp} {te ta : TE} {β : Type} {R : Rdr β} {xs : List β}
theorem Ev.b {b : Bool} (h : Ev te σ H (.bl b)) : EvP te σ H (is rBool b) := .of_ev h fun _ _ _ _ => rfl
theorem Ev.flat {b : Bool} (h : Ev te σ H (.bl b)) : EvP te σ H (someF rBool fun y => y = b) := (Ev.b h).flatI
theorem all_ {bs : List Bool} (h : EvP te σ H (is (rLst rBool) bs)) : Ev (tCB (rAll K) (tCons te tNil)) σ H (.bl (bs.all id)) := fun H1 e Q q =>
  h H1 e _ fun v H2 e2 ⟨a, vs, ev, hv, r⟩ => ⟨a, bs, by rw [ev], .inl (.inl (by rw [hv, bools_of r])), q H2 e2⟩
theorem any_ {bs : List Bool} (h : EvP te σ H (is (rLst rBool) bs)) : Ev (tCB (rAny K) (tCons te tNil)) σ H (.bl (bs.any id)) := fun H1 e Q q =>
  h H1 e _ fun v H2 e2 ⟨a, vs, ev, hv, r⟩ => ⟨a, bs, by rw [ev], .inl (.inl (by rw [hv, bools_of r])), q H2 e2⟩
/-- all over a comprehension without a test -/
theorem all_map {β : Type} {xs : List β} {f : β → Bool} (h : EvP te σ H (nw (rLst rBool) ((xs.filter fun _ => true).map f))) : Ev (tCB (rAll K) (tCons te tNil)) σ H (.bl (xs.all f)) := by
  have e : ((xs.filter fun _ => true).map f).all id = xs.all f := by
    rw [List.filter_eq_self.mpr fun _ _ => rfl, List.all_map]
    rfl
  rw [← e]
  exact all_ h.of_nw
theorem any_map {β : Type} {xs : List β} {f : β → Bool} (h : EvP te σ H (nw (rLst rBool) ((xs.filter fun _ => true).map f))) : Ev (tCB (rAny K) (tCons te tNil)) σ H (.bl (xs.any f)) := by
  have e : ((xs.filter fun _ => true).map f).any id = xs.any f := by
    rw [List.filter_eq_self.mpr fun _ _ => rfl, List.any_map]
    rfl
  rw [← e]
  exact any_ h.of_nw
end
end FM

/-! ## FGen -/
set_option Elab.async false
set_option linter.all false
set_option maxRecDepth 100000
set_option maxHeartbeats 2000000
/-! A def keeps its promise: what is shown of its body. -/
namespace FM
open PySem PySem.Spec PyProof.Rows L2
open Evl (Ex EvT Ev)
section
variable {P : Program} {w : World} {K : PySem.W.Frag} {mg : Str → Option Value} {base : Heap} {ι : Type} {A : ι → List V → Hp → Prop} {Pp : ι → Hp → V → Hp → Prop} {x y qual : Str} {params : Arguments} {body : List Stmt} {scope : Scope} {f : Addr} {fd : FuncData} {N ps : List Str} {k : Nat}
/-- the body of a def, at arguments of which A holds: every end that Pp allows is reached -/
def Bod (P : Program) (w : World) (K : PySem.W.Frag) (mg : Str → Option Value) (base : Heap) (N : List Str) (qual : Str) (scope : Scope) (body : List Stmt) (f : Addr) (k : Nat) (A : ι → List V → Hp → Prop) (Pp : ι → Hp → V → Hp → Prop) : Prop :=
  ∀ (cdv : Value) (A0 : Around) (outer : List Env) (s : Shared) (H : Hp) (E : XK) (i : ι) (vs : List V) (Q : VK), Room k (cxOf CX0 P w K mg base N qual scope f cdv A0 outer s H E).A → A i vs H → (∀ v H', Ex H H' → Pp i H v H' → Q v H') →
    ∃ t, PSs (cxOf CX0 P w K mg base N qual scope f cdv A0 outer s H E) body t ∧ t { nx := fun _ H' => Q .non H', rt := Q } (start N vs) H
theorem bod_ok {dvs : List V} {kws : List (Str × V)} (F : FunD K y qual params body scope dvs kws f fd) (S : FnScope N ps scope) (len : ∀ i vs H, A i vs H → vs.length = ps.length) (h : Bod P w K mg base N qual scope body f k A Pp) : FnOk P w K mg base CX0 (k + 1) f fd ps (spOf A Pp) :=
  F.ok S (fun vs H Q E ⟨i, hA, _⟩ => len i vs H hA) fun cdv A0 outer s H vs Q E hr ⟨i, hA, hq⟩ => h cdv A0 outer s H E i vs Q hr hA hq
theorem gfn (hg : mg x = some (.ref f)) (F : FunD K y qual params body scope [] [] f fd) (S : FnScope N ps scope) (b : Binds K fd ps []) (len : ∀ i vs H, A i vs H → vs.length = ps.length) (h : Bod P w K mg base N qual scope body f k A Pp) : GFn P w K mg base x (k + 1) (spOf A Pp) :=
  ⟨f, fd, ps, hg, F.kp, bod_ok F S len h, b⟩
theorem gmt {C m : Str} (hc : Cls K (He.ga K C)) (hm : Meth K (He.ga K C) m f) (F : FunD K y qual params body scope [] [] f fd) (S : FnScope N ps scope) (b : Binds K fd ps []) (len : ∀ i vs H, A i vs H → vs.length = ps.length) (h : Bod P w K mg base N qual scope body f k A Pp) : GMt P w K mg base C m (k + 1) (spOf A Pp) :=
  ⟨f, fd, ps, hc, hm, bod_ok F S len h, b⟩
end
section
variable {k : Nat} {A : Around}
theorem u1 (hr : Room k A) : A.units + 1 < cLine := by have := hr.un; omega
theorem u64 (hr : Room k A) : A.units + 64 < cLine := by have := hr.un; omega
theorem u65 (hr : Room k A) : A.units + 65 < cLine := by have := hr.un; omega
end
/-! the arguments of a def, one behind another -/
def a1 {β : Type} (R : Rdr β) (x : β) : List V → Hp → Prop := fun vs H => ∃ v, vs = [v] ∧ R H v x
def a2 {β γ : Type} (R : Rdr β) (S : Rdr γ) (x : β) (y : γ) : List V → Hp → Prop := fun vs H => ∃ u v, vs = [u, v] ∧ R H u x ∧ S H v y
def a3 {β γ δ : Type} (R : Rdr β) (S : Rdr γ) (T : Rdr δ) (x : β) (y : γ) (z : δ) : List V → Hp → Prop := fun vs H => ∃ u v w, vs = [u, v, w] ∧ R H u x ∧ S H v y ∧ T H w z
def a4 {β γ δ ε : Type} (R : Rdr β) (S : Rdr γ) (T : Rdr δ) (U : Rdr ε) (x : β) (y : γ) (z : δ) (q : ε) : List V → Hp → Prop := fun vs H => ∃ u v w t, vs = [u, v, w, t] ∧ R H u x ∧ S H v y ∧ T H w z ∧ U H t q
section
variable {σ : L2.St} {H : Hp} {te tf tg th : TE} {β γ δ ε : Type} {R : Rdr β} {S : Rdr γ} {T : Rdr δ} {U : Rdr ε} [Mono R] [Mono S] [Mono T] [Mono U] {x : β} {y : γ} {z : δ} {q : ε}
theorem ea1 (h1 : EvP te σ H (is R x)) : EvAs (tCons te tNil) σ H (a1 R x) := (EvAs.cons h1 .nil).imp fun vs H1 _ ⟨v, r, e, h, e2⟩ => ⟨v, by rw [e, e2], h⟩
theorem ea2 (h1 : EvP te σ H (is R x)) (h2 : EvP tf σ H (is S y)) : EvAs (tCons te (tCons tf tNil)) σ H (a2 R S x y) := (EvAs.cons h1 (ea1 h2)).imp fun vs H1 _ ⟨v, r, e, h, u, e2, h2⟩ => ⟨v, u, by rw [e, e2], h, h2⟩
theorem ea3 (h1 : EvP te σ H (is R x)) (h2 : EvP tf σ H (is S y)) (h3 : EvP tg σ H (is T z)) : EvAs (tCons te (tCons tf (tCons tg tNil))) σ H (a3 R S T x y z) := (EvAs.cons h1 (ea2 h2 h3)).imp fun vs H1 _ ⟨v, r, e, h, u, u2, e2, h2, h3⟩ => ⟨v, u, u2, by rw [e, e2], h, h2, h3⟩
theorem ea4 (h1 : EvP te σ H (is R x)) (h2 : EvP tf σ H (is S y)) (h3 : EvP tg σ H (is T z)) (h4 : EvP th σ H (is U q)) : EvAs (tCons te (tCons tf (tCons tg (tCons th tNil)))) σ H (a4 R S T U x y z q) := (EvAs.cons h1 (ea3 h2 h3 h4)).imp fun vs H1 _ ⟨v, r, e, h, u, u2, u3, e2, h2, h3, h4⟩ => ⟨v, u, u2, u3, by rw [e, e2], h, h2, h3, h4⟩
end
end FM

/-! ## FK -/
set_option Elab.async false
set_option linter.all false
set_option maxRecDepth 100000
set_option maxHeartbeats 2000000
/-! The layer's rules with the written part K named ahead: so that what they read names no context of a block. -/
namespace FM
open PySem PySem.Spec PyProof.Rows L2
open Evl (Ex EvT Ev)
/-- the context stands in this program -/
structure Cn (X : Cx) (P : Program) (w : World) (K : PySem.W.Frag) (mg : Str → Option Value) (base : Heap) : Prop where
  p : X.prog = P
  w : X.w = w
  k : X.K = K
  m : X.mg = mg
  b : X.base = base
section
variable {X : Cx} (K : PySem.W.Frag)
theorem k_in (e : X.K = K := by rfl) : OpR X (compareOp .In) (rIn K false) := by subst e; exact op_in_seq
theorem k_notIn (e : X.K = K := by rfl) : OpR X (compareOp .NotIn) (rIn K true) := by subst e; exact op_notIn_seq
theorem k_inD (hu : X.A.units + 65 < cLine) (e : X.K = K := by rfl) : OpR X (compareOp .In) (rInD K) := by subst e; exact op_inD hu
theorem k_notInD (hu : X.A.units + 65 < cLine) (e : X.K = K := by rfl) : OpR X (compareOp .NotIn) (rNotInD K) := by subst e; exact op_notInD hu
theorem k_eqD (hu : X.A.units + 64 < cLine) (e : X.K = K := by rfl) : OpR X (compareOp .Eq) (rEqD K) := by subst e; exact op_eqD hu
theorem k_neD (hu : X.A.units + 64 < cLine) (e : X.K = K := by rfl) : OpR X (compareOp .NotEq) (rNeD K) := by subst e; exact op_neD hu
theorem k_all (e : X.K = K := by rfl) (hc : X.calm = true := by rfl) : CallR X (.builtin "all") (rAll K) := by subst e; exact cr_all hc
theorem k_any (e : X.K = K := by rfl) (hc : X.calm = true := by rfl) : CallR X (.builtin "any") (rAny K) := by subst e; exact cr_any hc
def qLen (K : PySem.W.Frag) : List V → Hp → VK → Prop := fun xs H Q => ∃ x n, xs = [x] ∧ LenV K x H n ∧ Q (.int n) H
theorem k_len (e : X.K = K := by rfl) : CallR X (.builtin "len") (qLen K) := by subst e; exact call_len


theorem k_isi (e : X.K = K := by rfl) : CallR X (.builtin "isinstance") (rIsi K) := by subst e; exact call_isi
theorem k_isiT (e : X.K = K := by rfl) : CallR X (.builtin "isinstance") (rIsiT K) := by subst e; exact call_isiT
def qList (K : PySem.W.Frag) : List V → Hp → VK → Prop := fun xs H Q => ∃ p ys, xs = [.ref p] ∧ (SqL K H p ys ∨ SqT K H p ys) ∧ ∀ l, H l = none → Q (.ref l) (upd H l (.lst ys))
theorem k_list_of (e : X.K = K := by rfl) : CallR X (.type "list") (qList K) := by subst e; exact call_list_of
def qTuple (K : PySem.W.Frag) : List V → Hp → VK → Prop := fun xs H Q => ∃ p ys, xs = [.ref p] ∧ ((SqL K H p ys ∧ ∀ l, H l = none → Q (.ref l) (upd H l (.tup ys))) ∨ (SqT K H p ys ∧ Q (.ref p) H))
theorem k_tuple_of (e : X.K = K := by rfl) : CallR X (.type "tuple") (qTuple K) := by subst e; exact call_tuple_of
def qListT : List V → Hp → VK → Prop := fun xs H Q => ∃ d kvs, xs = [V.ref d] ∧ Rd H d (.dT kvs) ∧ ∀ p bs, H p = none → IsKeys H kvs bs → Q (.ref p) (upd H p (.lst (bs.map V.ref)))
theorem k_list_dT (hc : X.calm = true := by rfl) : CallR X (.type "list") qListT := call_list_dT hc
theorem k_list_dK (hc : X.calm = true := by rfl) : CallR X (.type "list") rListD := call_list_dK hc
theorem k_ixL (e : X.K = K := by rfl) : IxR X (rIxL K) := by subst e; exact ix_list
theorem k_ixT (e : X.K = K := by rfl) : IxR X (rIxT K) := by subst e; exact ix_tup
theorem k_slL (e : X.K = K := by rfl) : SlR X (rSlL K) := by subst e; exact sl_list
theorem k_catA (e : X.K = K := by rfl) : OpR X (binaryOp .Add) (rCatA K) := by subst e; exact op_catA
theorem k_slA (e : X.K = K := by rfl) : SlR X (rSlA K) := by subst e; exact sl_tupA
theorem k_index (e : X.K = K := by rfl) : MtR X "list.index" (rIndex K) := by subst e; exact mt_index
section
variable {e e2 tg l o value : Expr} {es : List Expr} {tl te to ta tv : TE} {t : TA} {f : Str} {p pos tpos apos cpos pos' : Pos} {elts : List Expr} {kk : Nat}
theorem k_pil (h : PE X l tl) (e : X.K = K := by rfl) : PI X tg l (iList K tl) := by subst e; exact pi_list h
theorem k_pit (h : PE X l tl) (e : X.K = K := by rfl) : PI X tg l (iTup K tl) := by subst e; exact pi_tup h
theorem k_enum (hm : X.mg "enumerate" = none) (ha : PA X [e] t) (hg : Gl X "enumerate" := by rfl) (hs : starEach [e] X.env = [(false, eval e X.env)] := by rfl) (ek : X.K = K := by rfl) :
    PI X (.Tuple elts kk tpos) (.Call (.Name "enumerate" p) [e] [] pos) (iEnum K t) := by subst ek; exact pi_enum hg hm ha hs
theorem k_zip (hm : X.mg "zip" = none) (ha : PA X [e, e2] t) (hg : Gl X "zip" := by rfl) (hs : starEach [e, e2] X.env = (false, eval e X.env) :: starEach [e2] X.env := by rfl) (hpl : (backTo pos (starEach [e2] X.env)).any (·.1) = false := by rfl) (ek : X.K = K := by rfl) :
    PI X (.Tuple elts kk tpos) (.Call (.Name "zip" p) [e, e2] [] pos) (RZ.iZipA K t) := by subst ek; exact RZ.pi_zipA hg hm ha hs hpl
theorem k_range (hm : X.mg "range" = none) (ha : PA X [e] t) (hg : Gl X "range" := by rfl) (hs : starEach [e] X.env = [(false, eval e X.env)] := by rfl) : PI X tg (.Call (.Name "range" p) [e] [] pos) (iRng1 t) := pi_range1 hg hm ha hs
theorem k_gtup {n : Nat} {u : TGs} (h : PGs X es u) (ek : X.K = K := by rfl) (hc : X.calm = true := by rfl) (hn : (assignEach es X.env).length = n := by rfl) (hst : (assignEach es X.env).findIdx? (·.1) = none := by rfl) : PG X (.Tuple es kk pos) (gTup K n u) := by subst ek; exact pg_tup hc h hn hst
theorem k_fld (he : PE X e ta) (hb : attributeBase e f X.env (eval e X.env) = eval e X.env := by rfl) (ek : X.K = K := by rfl) : PE X (.Attribute e f pos) (tFld K ta f) := by subst ek; exact pe_fld he hb
theorem k_con (he : PE X e ta) (hb : attributeBase e f X.env (eval e X.env) = eval e X.env := by rfl) (ek : X.K = K := by rfl) : PE X (.Attribute e f pos) (tCon K ta f) := by subst ek; exact pe_con he hb
theorem k_sfld (ha : PE X o ta) (hv : PE X value tv) (hs : swapsWith value (some (.Attribute o f pos')) pos.line X.env = pure false := by rfl) (ek : X.K = K := by rfl) : PS X (.Assign [.Attribute o f pos'] value pos) (sFld K ta tv f) := by subst ek; exact ps_fld ha hv hs
theorem k_rev {p1 p2 p3 : Pos} (he : PE X e te) (ek : X.K = K := by rfl) : PE X (.Subscript e (.Slice none none (some (.UnaryOp .USub (.Constant (.int 1) kk p1) p2)) p3) pos) (tRevL K te) := by subst ek; exact pe_revL he
theorem k_bm {T id : String} {r : V → List V → Hp → VK → Prop} {name : Str} (pa : PlainAttrs T) (slot : Slot T name id) (hty : typeOf (.builtin id) = pure (.type "method_descriptor")) (hm : MtR X id r) (ho : PE X o to) (ha : PA X (e :: es) t)
    (hbase : attributeBase o name X.env (eval o X.env) = eval o X.env := by rfl)
    (hfew : ((backTo cpos (starEach (e :: es) X.env)).all (fun x => !x.1) && (backToKw cpos (keywordEach [] X.env)).all (fun x => x.1.isSome) && decide ((e :: es).length + ([] : List Keyword).length + (if ([] : List Keyword).isEmpty then 0 else 1) < 30)) = true := by rfl)
    (hline : (apos.endLine == cpos.line) = true := by rfl) (hs : starEach (e :: es) X.env = (false, eval e X.env) :: starEach es X.env := by rfl) (hplain : (backTo cpos (starEach es X.env)).any (·.1) = false := by rfl) (ek : X.K = K := by rfl) :
    PE X (.Call (.Attribute o name apos) (e :: es) [] cpos) (tBM K T r to t) := by subst ek; exact pe_bm pa slot hty hm ho ha hbase hfew hline hs hplain
theorem k_bm0 {T id : String} {r : V → List V → Hp → VK → Prop} {name : Str} (pa : PlainAttrs T) (slot : Slot T name id) (hty : typeOf (.builtin id) = pure (.type "method_descriptor")) (hm : MtR X id r) (ho : PE X o to)
    (hbase : attributeBase o name X.env (eval o X.env) = eval o X.env := by rfl) (hline : (apos.endLine == cpos.line) = true := by rfl) (ek : X.K = K := by rfl) : PE X (.Call (.Attribute o name apos) [] [] cpos) (tBM0 K T r to) := by subst ek; exact pe_bm0 pa slot hty hm ho hbase hline
end
end
section
variable {X : Cx} {x C m : Str} {k j : Nat} {sp : Sp} {e o : Expr} {es : List Expr} {t : TA} {ta : TE} {p pos apos : Pos} {P : Program} {w : World} {K : PySem.W.Frag} {mg : Str → Option Value} {base : Heap}
theorem kcall (G : GFn P w K mg base x k sp) (hr : Room j X.A) (ha : PA X (e :: es) t) (cn : Cn X P w K mg base := by exact ⟨rfl, rfl, rfl, rfl, rfl⟩) (hkj : k ≤ j := by decide) (hg : Gl X x := by rfl) (hdb : (x == ("__debug__" : Str)) = false := by decide)
    (he : starEach (e :: es) X.env = (false, eval e X.env) :: starEach es X.env := by rfl) (hpl : (backTo pos (starEach es X.env)).any (·.1) = false := by rfl) : PE X (.Call (.Name x p) (e :: es) [] pos) (tCall sp [] E0 t) := by
  obtain ⟨rfl, rfl, rfl, rfl, rfl⟩ := cn
  exact pcall G hr ha hkj hg hdb he hpl
theorem kmeth {pl : Sem Bool} (G : GMt P w K mg base C m k sp) (hr : Room j X.A) (ho : PE X o ta) (ha : PA X (e :: es) t) (cn : Cn X P w K mg base := by exact ⟨rfl, rfl, rfl, rfl, rfl⟩) (hkj : k ≤ j := by decide)
    (hst : starEach (e :: es) X.env = (false, eval e X.env) :: starEach es X.env := by rfl) (hpl : (backTo pos (starEach es X.env)).any (·.1) = false := by rfl)
    (ht : eval (.Call (.Attribute o m apos) (e :: es) [] pos) X.env = (do
      let ov ← eval o X.env
      standAt apos.atName
      let (f, first) ← holding [ov] (getMethod ov m pl)
      callWith pos f first (backTo pos (starEach (e :: es) X.env)) (backToKw pos (keywordEach [] X.env))) := by rfl) :
    PE X (.Call (.Attribute o m apos) (e :: es) [] pos) (tMeth (He.ga K C) m sp [] E0 ta t) := by
  obtain ⟨rfl, rfl, rfl, rfl, rfl⟩ := cn
  exact pmeth G hr ho ha hkj hst hpl ht
theorem kmeth0 {pl : Sem Bool} (G : GMt P w K mg base C m k sp) (hr : Room j X.A) (ho : PE X o ta) (cn : Cn X P w K mg base := by exact ⟨rfl, rfl, rfl, rfl, rfl⟩) (hkj : k ≤ j := by decide)
    (ht : eval (.Call (.Attribute o m apos) [] [] pos) X.env = (do
      let ov ← eval o X.env
      standAt apos.atName
      let (f, first) ← holding [ov] (getMethod ov m pl)
      callWith pos f first (backTo pos (starEach [] X.env)) (backToKw pos (keywordEach [] X.env))) := by rfl) :
    PE X (.Call (.Attribute o m apos) [] [] pos) (tMeth (He.ga K C) m sp [] E0 ta tNil) := by
  obtain ⟨rfl, rfl, rfl, rfl, rfl⟩ := cn
  exact pmeth0 G hr ho hkj ht
theorem kmake (G : GMk P w K mg base C k sp) (hr : Room j X.A) (ha : PA X (e :: es) t) (cn : Cn X P w K mg base := by exact ⟨rfl, rfl, rfl, rfl, rfl⟩) (hkj : k + 1 ≤ j := by decide) (hg : Gl X C := by rfl) (hdb : (C == ("__debug__" : Str)) = false := by decide)
    (he : starEach (e :: es) X.env = (false, eval e X.env) :: starEach es X.env := by rfl) (hpl : (backTo pos (starEach es X.env)).any (·.1) = false := by rfl) : PE X (.Call (.Name C p) (e :: es) [] pos) (tMake (He.ga K C) sp [] E0 t) := by
  obtain ⟨rfl, rfl, rfl, rfl, rfl⟩ := cn
  exact pmake G hr ha hkj hg hdb he hpl
end
end FM

/-! ## FFor -/
set_option Elab.async false
set_option linter.all false
set_option maxRecDepth 100000
set_option maxHeartbeats 2000000
/-! Loops whose bodies change objects that the def has made; changes of lists and dicts; further built-ins. -/
namespace FM
open PySem PySem.Spec PyProof.Rows L2
open Evl (Ex EvT Ev)
/-- what is walked, told over a heap Hn that lies over H and bears, beyond H, only what is new at the walk's begin (and tuples) -/
def EvJ (wi : TI) (σ : L2.St) (H : Hp) (n : Nat) (Y : Nat → V → Hp → Prop) : Prop := ∀ H1, Ex H H1 → ∀ R : It → Hp → Prop,
  (∀ J H2 Hn, Ex H1 H2 → Ex H Hn → Ex Hn H2 → (∀ a o, Hn a = some o → H a = some o ∨ H1 a = none ∨ ∃ xs, o = .tup xs ∨ ∃ ob, o = .frz ob (.tup xs)) → Wk J Hn n Y → R J H2) → wi σ H1 R
section
variable {K : PySem.W.Frag} {σ : L2.St} {H H' : Hp} {te tl ta : TE} {β γ : Type} {R : Rdr β} {S : Rdr γ} {xs : List β} {wi : TI} {n : Nat} {Y : Nat → V → Hp → Prop}
/-- over H and what is new, and all tuples -/
def hov (H H1 H2 : Hp) : Hp := fun a => match H2 a with
  | some (.tup xs) => some (.tup xs)
  | some (.frz ob (.tup xs)) => some (.frz ob (.tup xs))
  | o => match H1 a with
    | none => o
    | some _ => H a
theorem hov_tup {H H1 H2 : Hp} : Tx H2 (hov H H1 H2) := fun a o xs k h => by
  unfold hov
  rw [h]
  rcases k with rfl | ⟨ob, rfl⟩ <;> rfl
def isT : HO → Bool
  | .tup _ => true
  | .frz _ (.tup _) => true
  | _ => false
theorem hov_t {H H1 H2 : Hp} {a : Addr} {o : HO} (h : H2 a = some o) (k : isT o = true) : hov H H1 H2 a = some o := by
  unfold hov
  rw [h]
  cases o with
  | tup xs => rfl
  | frz ob u => cases u <;> first | rfl | cases k
  | _ => cases k
theorem hov_n {H H1 H2 : Hp} {a : Addr} (k : ∀ o, H2 a = some o → isT o = false) : hov H H1 H2 a = match H1 a with | none => H2 a | some _ => H a := by
  unfold hov
  cases q : H2 a with
  | none => rfl
  | some o =>
    have k := k o q
    cases o with
    | tup xs => cases k
    | frz ob u => cases u <;> first | rfl | cases k
    | _ => rfl
theorem hov_new {H H1 H2 : Hp} {a : Addr} (h : H1 a = none) : hov H H1 H2 a = H2 a := by
  by_cases k : ∀ o, H2 a = some o → isT o = false
  · rw [hov_n k, h]
  · obtain ⟨o, k⟩ := Classical.not_forall.mp k
    obtain ⟨k1, k2⟩ := Classical.not_imp.mp k
    rw [hov_t k1 (by simpa using k2), k1]
theorem hov_old {H H1 H2 : Hp} (e : Ex H H1) (e2 : Ex H1 H2) : Ex H (hov H H1 H2) := fun a o h => by
  have h1 := e a o h
  have h2 := e2 a o h1
  cases z : isT o with
  | true => exact hov_t h2 z
  | false =>
    rw [hov_n (fun u hu => by rw [h2] at hu; cases hu; exact z), h1]
    exact h
theorem hov_le {H H1 H2 : Hp} (e : Ex H H1) (e2 : Ex H1 H2) : Ex (hov H H1 H2) H2 := fun a o h => by
  by_cases k : ∀ o, H2 a = some o → isT o = false
  · rw [hov_n k] at h
    cases q : H1 a with
    | none => rw [q] at h; exact h
    | some u => rw [q] at h; exact e2 a o (e a o h)
  · obtain ⟨u, k⟩ := Classical.not_forall.mp k
    obtain ⟨k1, k2⟩ := Classical.not_imp.mp k
    rw [hov_t k1 (by simpa using k2)] at h
    cases h
    exact k1
theorem hov_only {H H1 H2 : Hp} : ∀ a o, hov H H1 H2 a = some o → H a = some o ∨ H1 a = none ∨ ∃ xs, o = .tup xs ∨ ∃ ob, o = .frz ob (.tup xs) := fun a o h => by
  by_cases k : ∀ o, H2 a = some o → isT o = false
  · rw [hov_n k] at h
    cases q : H1 a with
    | none => exact .inr (.inl rfl)
    | some u => rw [q] at h; exact .inl h
  · obtain ⟨u, k⟩ := Classical.not_forall.mp k
    obtain ⟨k1, k2⟩ := Classical.not_imp.mp k
    have k2 : isT u = true := by simpa using k2
    rw [hov_t k1 k2] at h
    have h : u = o := Option.some.inj h
    subst h
    cases u with
    | tup xs => exact .inr (.inr ⟨xs, .inl rfl⟩)
    | frz ob z => cases z <;> first | exact .inr (.inr ⟨_, .inr ⟨_, rfl⟩⟩) | cases k2
    | _ => cases k2
/-- a list that stood -/
theorem j_list [Mono R] {v : V} (h : Ev tl σ H v) (r : rLst R H v xs) : EvJ (iList K tl) σ H xs.length (ith R xs) := fun H1 e Q q => by
  obtain ⟨a, vs, ev, hv, r⟩ := r
  subst ev
  refine h H1 e _ fun H2 e2 => ⟨a, rfl, ⟨vs, .inl (.inl (e2 a _ (e a _ hv)))⟩, q _ H2 (hov H H1 H2) e2 (hov_old e e2) (hov_le e e2) hov_only ⟨fun i H3 hi e3 => ?_, fun i H3 x H4 hi e3 y => ?_, fun H3 e3 => ?_⟩⟩
  · have hl : i < vs.length := by rw [plen r]; exact hi
    exact ⟨vs, vs[i], .inl (.inl (e3 a _ (hov_old e e2 a _ hv))), List.getElem?_eq_getElem hl⟩
  · obtain ⟨rfl, y⟩ := y
    obtain ⟨b, hb, rb⟩ := pget r (y vs (.inl (.inl (e3 a _ (hov_old e e2 a _ hv)))))
    exact ⟨Ex.refl _, b, hb, up ((hov_old e e2).trans e3) rb⟩
  · exact ⟨vs, .inl (.inl (e3 a _ (hov_old e e2 a _ hv))), Nat.le_of_eq (plen r)⟩
/-- a new list -/
theorem j_new [MoT R] (h : EvP tl σ H (nw (rLst R) xs)) : EvJ (iList K tl) σ H xs.length (ith R xs) := fun H1 e Q q =>
  h H1 e _ fun v H2 e2 ⟨a, ev, hn, b, vs, eb, hv, r⟩ => by
    subst ev
    cases eb
    have ha : hov H H1 H2 a = some (.lst vs) := by rw [hov_new hn]; exact hv
    refine ⟨a, rfl, ⟨vs, .inl (.inl hv)⟩, q _ H2 (hov H H1 H2) e2 (hov_old e e2) (hov_le e e2) hov_only ⟨fun i H3 hi e3 => ?_, fun i H3 x H4 hi e3 y => ?_, fun H3 e3 => ?_⟩⟩
    · have hl : i < vs.length := by rw [plen r]; exact hi
      exact ⟨vs, vs[i], .inl (.inl (e3 a _ ha)), List.getElem?_eq_getElem hl⟩
    · obtain ⟨rfl, y⟩ := y
      obtain ⟨b, hb, rb⟩ := pget r (y vs (.inl (.inl (e3 a _ ha))))
      exact ⟨Ex.refl _, b, hb, upT (hov_tup.trans (.of e3)) rb⟩
    · exact ⟨vs, .inl (.inl (e3 a _ ha)), Nat.le_of_eq (plen r)⟩
/-- a tuple -/
theorem j_tup [MoT R] (h : EvP tl σ H (is (rTupR R) xs)) : EvJ (iTup K tl) σ H xs.length (ith R xs) := fun H1 e Q q =>
  h H1 e _ fun v H2 e2 ⟨a, vs, ev, hv, r⟩ => by
    subst ev
    have ha : L2.Rd (hov H H1 H2) a (.tup vs) := hov_tup.rd hv
    refine ⟨a, rfl, ⟨vs, .inl hv⟩, q _ H2 (hov H H1 H2) e2 (hov_old e e2) (hov_le e e2) hov_only ⟨fun i H3 hi e3 => ?_, fun i H3 x H4 hi e3 y => ?_, fun H3 e3 => ?_⟩⟩
    · have hl : i < vs.length := by rw [plen r]; exact hi
      exact ⟨vs, vs[i], .inl (Evl.ex_rd e3 ha), List.getElem?_eq_getElem hl⟩
    · obtain ⟨rfl, y⟩ := y
      obtain ⟨b, hb, rb⟩ := pget r (y vs (.inl (Evl.ex_rd e3 ha)))
      exact ⟨Ex.refl _, b, hb, upT (hov_tup.trans (.of e3)) rb⟩
    · exact ⟨vs, .inl (Evl.ex_rd e3 ha), Nat.le_of_eq (plen r)⟩
theorem j_range {m : Int} (h : Ev ta σ H (.int m)) (h0 : 0 ≤ m) (h1 : m ≤ 1000000) : EvJ (iRng1 (tCons ta tNil)) σ H m.toNat (fun i v _ => v = .int (i : Nat)) := fun H1 e Q q =>
  h H1 e _ fun H2 e2 => ⟨m, rfl, by omega, by omega, q _ H2 (hov H H1 H2) e2 (hov_old e e2) (hov_le e e2) hov_only ⟨fun i H3 hi e3 => hi, fun i H3 x H4 hi e3 ⟨eh, ex⟩ => ⟨by rw [eh]; exact Ex.refl _, by rw [ex, Int.zero_add]⟩, fun H3 e3 => Nat.le_refl _⟩⟩
/-- the places and items of a list that stood -/
theorem j_enum [Mono R] {v : V} (h : Ev tl σ H v) (r : rLst R H v xs) : EvJ (iEnum K (tCons tl tNil)) σ H xs.length (fun i v H => ∃ x, xs[i]? = some x ∧ rPair rInt R H v ((i : Int), x)) := fun H1 e Q q => by
  obtain ⟨a, vs, ev, hv, r⟩ := r
  subst ev
  refine h H1 e _ fun H2 e2 => ⟨a, vs, rfl, .inl (.inl (e2 a _ (e a _ hv))), q _ H2 (hov H H1 H2) e2 (hov_old e e2) (hov_le e e2) hov_only ⟨fun i H3 hi e3 => ?_, fun i H3 x H4 hi e3 y => ?_, fun H3 e3 => ?_⟩⟩
  · have hl : i < vs.length := by rw [plen r]; exact hi
    exact ⟨vs, vs[i], .inl (.inl (e3 a _ (hov_old e e2 a _ hv))), List.getElem?_eq_getElem hl⟩
  · obtain ⟨T, x1, ex, hT, eh, y⟩ := y
    subst ex eh
    obtain ⟨b, hb, rb⟩ := pget r (y vs (.inl (.inl (e3 a _ (hov_old e e2 a _ hv)))))
    exact ⟨Ex.new hT, b, hb, T, _, _, rfl, upd_same, rfl, up (((hov_old e e2).trans e3).trans (Ex.new hT)) rb⟩
  · exact ⟨vs, .inl (.inl (e3 a _ (hov_old e e2 a _ hv))), Nat.le_of_eq (plen r)⟩
/-- THE LOOP: I i holds ahead of turn i -/
theorem r_for {g : TG} {tb : TS} {D : Ends} {H1 : Hp} (hi : EvJ wi σ H n Y) (eH : Ex H H1) (I : Nat → L2.St → Hp → Prop) (h0 : ∀ H2, Ex H1 H2 → I 0 σ H2)
    (hs : ∀ Hn, Ex H Hn → (∀ a o, H a = none → H1 a = some o → isT o = false → Hn a = none) → ∀ i σ' H', i < n → I i σ' H' → Ex Hn H' → ∀ v H3, Ex H' H3 → Y i v H3 →
      g v σ' H3 fun σ2 H4 => tb { D with nx := fun σ3 H5 => I (i + 1) σ3 H5 ∧ Ex Hn H5, ct := fun σ3 H5 => I (i + 1) σ3 H5 ∧ Ex Hn H5, bk := D.nx } σ2 H4)
    (hd : ∀ σ' H', I n σ' H' → Ex H H' → D.nx σ' H') : tFor wi g tb D σ H1 := hi H1 eH _ fun J H2 Hn e2 en en2 ho w => by
  have hF : ∀ a o, H a = none → H1 a = some o → isT o = false → Hn a = none := fun a o k1 k2 k3 => by
    cases q : Hn a with
    | none => rfl
    | some u =>
      rcases ho a u q with z | z | ⟨xs, z⟩
      · rw [k1] at z; cases z
      · rw [k2] at z; cases z
      · have := en2 a u q
        rw [e2 a o k2] at this
        cases this
        rcases z with rfl | ⟨ob, rfl⟩ <;> cases k3
  refine ⟨fun i m σ' H' => m = n - i ∧ i ≤ n ∧ I i σ' H' ∧ Ex Hn H', ⟨n, rfl, Nat.zero_le _, h0 H2 e2, en2⟩, ?_⟩
  rintro i m σ' H' ⟨rfl, hin, hI, eh⟩
  by_cases hlt : i < n
  · refine .inr ⟨w.go i H' hlt eh, fun σ3 H5 => I (i + 1) σ3 H5 ∧ Ex Hn H5, fun σ3 H5 p => ⟨n - (i + 1), by omega, rfl, hlt, p.1, p.2⟩, fun x H3 y => ?_⟩
    obtain ⟨e4, hy⟩ := w.yld i H' x H3 hlt eh y
    exact hs Hn en hF i σ' H' hlt hI eh x H3 e4 hy
  · have e : i = n := by omega
    subst e
    exact .inl ⟨w.stop H' eh, hd σ' H' hI (en.trans eh)⟩
end
end FM

/-! ## FEv2 -/
set_option Elab.async false
set_option linter.all false
set_option maxRecDepth 100000
set_option maxHeartbeats 2000000
/-! What built-ins, displays, items, slices, fields and methods come to; changes of lists and dicts. -/
namespace FM
open PySem PySem.Spec PyProof.Rows L2
open Evl (Ex EvT Ev)
/-- told of a heap ahead, it may be told of an earlier one -/
class Dn (P : Hp → V → Hp → Prop) : Prop where
  dn : ∀ {H1 H2 v H3}, Ex H1 H2 → P H2 v H3 → P H1 v H3
instance {β : Type} {R : Rdr β} {x : β} : Dn (is R x) := ⟨fun _ h => h⟩
instance {β : Type} {R : Rdr β} {x : β} : Dn (nw R x) := ⟨fun e ⟨a, h1, h2, h3⟩ => ⟨a, h1, Evl.fresh_back e h2, h3⟩⟩
instance {β : Type} {R : Rdr β} {S : β → Prop} : Dn (some_ R S) := ⟨fun _ h => h⟩
instance {β : Type} {R : Rdr β} {S : β → Prop} : Dn (someN R S) := ⟨fun e ⟨a, x, h1, h2, h3⟩ => ⟨a, x, h1, Evl.fresh_back e h2, h3⟩⟩
section
variable {K : PySem.W.Frag} {σ : L2.St} {H : Hp} {te ta tb ti tc : TE} {tt : TT} {tr : TA} {β γ : Type} {R : Rdr β} {S : Rdr γ} {xs ys : List β} {x : β} {y : γ} {P : Hp → V → Hp → Prop} {D : Ends} {t u : TS} {v : V}
theorem sq (h : t { D with nx := u D } σ H) : tSeq t u D σ H := h
/-! tests and choices -/
theorem if_ {b : Bool} [Dn P] (h : EvT tt σ H b) (h1 : b = true → EvP ta σ H P) (h2 : b = false → EvP tb σ H P) : EvP (tIf tt ta tb) σ H P := fun H1 e Q q =>
  h H1 e _ fun H2 e2 => by
    cases b with
    | true => exact h1 rfl H2 (e.trans e2) _ fun v H3 e3 p => q v H3 (e2.trans e3) (Dn.dn e2 p)
    | false => exact h2 rfl H2 (e.trans e2) _ fun v H3 e3 p => q v H3 (e2.trans e3) (Dn.dn e2 p)
theorem andB {a b : Bool} (h1 : Ev ta σ H (.bl a)) (h2 : a = true → Ev tb σ H (.bl b)) : Ev (tAndV ta tb) σ H (.bl (a && b)) := Evl.ev_andV h1 h2
theorem bool_ {b : Bool} (h : EvP te σ H (is rBool b)) : Ev te σ H (.bl b) := (h.imp fun _ v _ _ _ (r : v = .bl b) => r).ev
theorem int_ {i : Int} (h : EvP te σ H (is rInt i)) : Ev te σ H (.int i) := (h.imp fun _ v _ _ _ (r : v = .int i) => r).ev
theorem Ev.i {i : Int} (h : Ev te σ H (.int i)) : EvP te σ H (is rInt i) := .of_ev h fun _ _ _ _ => rfl
theorem Ev.s {s : Str} (hs : sOk s) (h : Ev te σ H (.str s)) : EvP te σ H (is rStr s) := .of_ev h fun _ _ _ _ => ⟨rfl, hs⟩
theorem opI {g : Int → Int → V} {i j : Int} (ha : Ev ta σ H (.int i)) (hb : Ev tb σ H (.int j)) : Ev (tOp (rI0 g) ta tb) σ H (g i j) := Evl.ev_op ha hb Evl.rv_I0
theorem isN {b : Bool} (h : Ev te σ H v) (e : decide (v = .non) = b) : EvT (tTest (tOp (fun x y H Q => y = .non ∧ Q (.bl (decide (x = .non))) H) te (tC .non))) σ H b := fun H1 a Q q =>
  h H1 a _ fun H2 e2 => ⟨rfl, b, by rw [e], q H2 e2⟩
theorem notN {b : Bool} (h : Ev te σ H v) (e : (!decide (v = .non)) = b) : EvT (tTest (tOp (fun x y H Q => y = .non ∧ Q (.bl (!decide (x = .non))) H) te (tC .non))) σ H b := fun H1 a Q q =>
  h H1 a _ fun H2 e2 => ⟨rfl, b, by rw [e], q H2 e2⟩
/-- a chain of two comparisons of ints -/
theorem chainI {g g' : Int → Int → Bool} {i j k : Int} (ha : Ev ta σ H (.int i)) (hb : Ev tb σ H (.int j)) (hc : Ev tc σ H (.int k)) : Ev (tChain (rI0 fun i j => .bl (g i j)) (rI0 fun i j => .bl (g' i j)) ta tb tc) σ H (.bl (g i j && g' j k)) := fun H1 e Q q =>
  ha H1 e _ fun H2 e2 => hb H2 (e.trans e2) _ fun H3 e3 => ⟨i, j, rfl, rfl, g i j, rfl, by
    cases z : g i j with
    | false => rw [if_neg (by decide)]; rw [z] at q; exact q H3 (e2.trans e3)
    | true =>
      rw [if_pos rfl]
      exact hc H3 ((e.trans e2).trans e3) _ fun H4 e4 => ⟨j, k, rfl, rfl, by rw [z] at q; exact q H4 ((e2.trans e3).trans e4)⟩⟩
/-! sizes -/
theorem len_l (h : EvP te σ H (is (rLst R) xs)) : Ev (tCB (qLen K) (tCons te tNil)) σ H (.int (xs.length : Nat)) := fun H1 e Q q =>
  h H1 e _ fun v H2 e2 ⟨a, vs, ev, hv, r⟩ => ⟨.ref a, vs.length, by rw [ev], .inl ⟨vs, .inl (.inl hv), rfl⟩, by rw [plen r]; exact q H2 e2⟩
theorem len_t (h : EvP te σ H (is (rTupR R) xs)) : Ev (tCB (qLen K) (tCons te tNil)) σ H (.int (xs.length : Nat)) := fun H1 e Q q =>
  h H1 e _ fun v H2 e2 ⟨a, vs, ev, hv, r⟩ => ⟨.ref a, vs.length, by rw [ev], .inr ⟨vs, .inl hv, rfl⟩, by rw [plen r]; exact q H2 e2⟩
theorem len_p {z : β × γ} (h : EvP te σ H (is (rPair R S) z)) : Ev (tCB (qLen K) (tCons te tNil)) σ H (.int (2 : Nat)) := fun H1 e Q q =>
  h H1 e _ fun v H2 e2 ⟨a, u, w, ev, hv, _⟩ => ⟨.ref a, 2, by rw [ev], .inr ⟨_, .inl (.inl hv), rfl⟩, q H2 e2⟩
theorem len_s {s : Str} (hs : s.length ≤ sizeLine) (h : Ev te σ H (.str s)) : Ev (tCB (qLen K) (tCons te tNil)) σ H (.int (s.length : Nat)) := fun H1 e Q q =>
  h H1 e _ fun H2 e2 => ⟨.str s, s.length, rfl, ⟨hs, rfl⟩, q H2 e2⟩
/-! kinds -/
theorem isi_t (h : EvP te σ H (is (rTupR R) xs)) : Ev (tCB (rIsi K) (tCons te (tCons (tC (.ty "tuple")) tNil))) σ H (.bl true) := fun H1 e Q q =>
  h H1 e _ fun v H2 e2 ⟨a, vs, ev, hv, r⟩ => ⟨.ref a, .ty "tuple", .type "tuple", .type "tuple", true, by rw [ev], .ty _, hv.elim (fun hv => .base (.tup hv)) fun ⟨ob, hv⟩ => .fTuple hv, rfl, q H2 e2⟩
theorem isi_p {z : β × γ} (h : EvP te σ H (is (rPair R S) z)) : Ev (tCB (rIsi K) (tCons te (tCons (tC (.ty "tuple")) tNil))) σ H (.bl true) := fun H1 e Q q =>
  h H1 e _ fun v H2 e2 ⟨a, u, w, ev, hv, r⟩ => ⟨.ref a, .ty "tuple", .type "tuple", .type "tuple", true, by rw [ev], .ty _, .base (.tup hv), rfl, q H2 e2⟩
theorem isi_l (h : EvP te σ H (is (rLst R) xs)) : Ev (tCB (rIsi K) (tCons te (tCons (tC (.ty "list")) tNil))) σ H (.bl true) := fun H1 e Q q =>
  h H1 e _ fun v H2 e2 ⟨a, vs, ev, hv, r⟩ => ⟨.ref a, .ty "list", .type "list", .type "list", true, by rw [ev], .ty _, .base (.lst hv), rfl, q H2 e2⟩
theorem isi_s {s : Str} (h : Ev te σ H (.str s)) : Ev (tCB (rIsi K) (tCons te (tCons (tC (.ty "str")) tNil))) σ H (.bl true) := fun H1 e Q q =>
  h H1 e _ fun H2 e2 => ⟨.str s, .ty "str", .type "str", .type "str", true, rfl, .ty _, .base (.str _), rfl, q H2 e2⟩
theorem isi_i {i : Int} (h : Ev te σ H (.int i)) : Ev (tCB (rIsi K) (tCons te (tCons (tC (.ty "int")) tNil))) σ H (.bl true) := fun H1 e Q q =>
  h H1 e _ fun H2 e2 => ⟨.int i, .ty "int", .type "int", .type "int", true, rfl, .ty _, .base (.int _), rfl, q H2 e2⟩
theorem isi_ib {i : Int} (h : Ev te σ H (.int i)) : Ev (tCB (rIsi K) (tCons te (tCons (tC (.ty "bool")) tNil))) σ H (.bl false) := fun H1 e Q q =>
  h H1 e _ fun H2 e2 => ⟨.int i, .ty "bool", .type "int", .type "bool", false, rfl, .ty _, .base (.int _), by rfl, q H2 e2⟩
/-! displays -/
theorem pa0 : EvAs tNil σ H (fun vs H2 => Paired (R H2) vs []) := EvAs.nil.imp fun vs H1 _ e => by subst e; exact .nil
theorem pa1 [Mono R] (h : EvP te σ H (is R x)) (hr : EvAs tr σ H (fun vs H2 => Paired (R H2) vs xs)) : EvAs (tCons te tr) σ H (fun vs H2 => Paired (R H2) vs (x :: xs)) := (EvAs.cons h hr).imp fun vs H1 _ ⟨v, r, e, h, p⟩ => by subst e; exact .cons h p
theorem lst_ [Mono R] (h : EvAs tr σ H (fun vs H2 => Paired (R H2) vs xs)) (hl : xs.length ≤ 100000) : EvP (tLst tr) σ H (nw (rLst R) xs) := fun H1 e Q q =>
  h H1 e _ fun vs H2 e2 p => ⟨by rw [plen p]; exact Evl.sz_of hl, fun a ha => q _ _ (e2.trans (Ex.new ha)) ⟨a, rfl, Evl.fresh_back e2 ha, a, vs, rfl, upd_same, pmap p fun _ _ r => up (Ex.new ha) r⟩⟩
theorem tup_ [Mono R] (h : EvAs tr σ H (fun vs H2 => Paired (R H2) vs xs)) (hl : xs.length ≤ 100000) : EvP (tTup tr) σ H (nw (rTup R) xs) := fun H1 e Q q =>
  h H1 e _ fun vs H2 e2 p => ⟨by rw [plen p]; exact Evl.sz_of hl, fun a ha => q _ _ (e2.trans (Ex.new ha)) ⟨a, rfl, Evl.fresh_back e2 ha, a, vs, rfl, upd_same, pmap p fun _ _ r => up (Ex.new ha) r⟩⟩
theorem pair_ [Mono R] [Mono S] (h1 : EvP ta σ H (is R x)) (h2 : EvP tb σ H (is S y)) : EvP (tTup (tCons ta (tCons tb tNil))) σ H (nw (rPair R S) (x, y)) := fun H1 e Q q =>
  ea2 h1 h2 H1 e _ fun vs H2 e2 ⟨u, w, ev, ru, rw'⟩ => by
    subst ev
    exact ⟨by show 2 ≤ sizeLine; decide, fun a ha => q _ _ (e2.trans (Ex.new ha)) ⟨a, rfl, Evl.fresh_back e2 ha, a, u, w, rfl, upd_same, up (Ex.new ha) ru, up (Ex.new ha) rw'⟩⟩
/-! items -/
theorem atI_nat {α : Type} {xs : List α} {j : Nat} (h : j < xs.length) : atI xs (j : Int) = xs[j]? := by
  unfold atI
  rw [Evl.ixN_nat h]
  rfl
theorem ixL [Mono R] {j : Nat} (h : EvP te σ H (is (rLst R) xs)) (hi : Ev ti σ H (.int (j : Nat))) (hx : xs[j]? = some x) : EvP (tOp (rIxL K) te ti) σ H (is R x) := fun H1 e Q q =>
  h H1 e _ fun v H2 e2 ⟨a, vs, ev, hv, r⟩ => hi H2 (e.trans e2) _ fun H3 e3 => by
    obtain ⟨u, hu, ru⟩ := pgetR r hx
    have hj : j < vs.length := (List.getElem?_eq_some_iff.mp hu).1
    exact ⟨a, vs, j, u, ev, rfl, .inl (.inl (e3 a _ hv)), by rw [atI_nat hj, hu], q u H3 (e2.trans e3) (up (R := R) e3 ru)⟩
theorem ixT [Mono R] {j : Nat} (h : EvP te σ H (is (rTup R) xs)) (hi : Ev ti σ H (.int (j : Nat))) (hx : xs[j]? = some x) : EvP (tOp (rIxT K) te ti) σ H (is R x) := fun H1 e Q q =>
  h H1 e _ fun v H2 e2 ⟨a, vs, ev, hv, r⟩ => hi H2 (e.trans e2) _ fun H3 e3 => by
    obtain ⟨u, hu, ru⟩ := pgetR r hx
    have hj : j < vs.length := (List.getElem?_eq_some_iff.mp hu).1
    exact ⟨a, vs, j, u, ev, rfl, .inl (.inl (e3 a _ hv)), by rw [atI_nat hj, hu], q u H3 (e2.trans e3) (up (R := R) e3 ru)⟩
theorem ixP0 {z : β × γ} (h : EvP te σ H (is (rPair R S) z)) : EvP (tOp (rIxT K) te (tC (.int 0))) σ H (is R z.1) := fun H1 e Q q =>
  h H1 e _ fun v H2 e2 ⟨a, u, w, ev, hv, r1, r2⟩ => ⟨a, [u, w], 0, u, ev, rfl, .inl (.inl hv), rfl, q u H2 e2 r1⟩
theorem ixP1 {z : β × γ} (h : EvP te σ H (is (rPair R S) z)) : EvP (tOp (rIxT K) te (tC (.int 1))) σ H (is S z.2) := fun H1 e Q q =>
  h H1 e _ fun v H2 e2 ⟨a, u, w, ev, hv, r1, r2⟩ => ⟨a, [u, w], 1, w, ev, rfl, .inl (.inl hv), rfl, q w H2 e2 r2⟩
/-! slices -/
theorem pcut {F : V → β → Prop} {vs : List V} (p : Paired F vs xs) (lo hi : Option Int) : Paired F (cutV vs lo hi) ((xs.drop (HT.sIx xs.length 0 lo)).take (HT.sIx xs.length xs.length hi - HT.sIx xs.length 0 lo)) := by
  unfold cutV
  rw [plen p]
  exact ptake _ (pdrop _ p)
theorem sl_hi {m : Nat} : (xs.drop (HT.sIx xs.length 0 none)).take (HT.sIx xs.length xs.length (some (m : Int)) - HT.sIx xs.length 0 none) = xs.take m := by
  rw [HT.sIx_nat, HT.sIx_none, List.drop_zero, Nat.sub_zero]
  by_cases h : m ≤ xs.length
  · rw [Nat.min_eq_left h]
  · rw [Nat.min_eq_right (by omega), List.take_length, List.take_of_length_le (by omega)]
theorem sl_lo {m : Nat} : (xs.drop (HT.sIx xs.length 0 (some (m : Int)))).take (HT.sIx xs.length xs.length none - HT.sIx xs.length 0 (some (m : Int))) = xs.drop m := by
  rw [HT.sIx_nat, HT.sIx_none]
  by_cases h : m ≤ xs.length
  · rw [Nat.min_eq_left h, List.take_of_length_le (by simp)]
  · rw [Nat.min_eq_right (by omega), List.drop_length, List.drop_eq_nil_of_le (by omega)]
    simp
theorem slL [Mono R] {tl th : TO} {lo hi : Option Int} (h : EvP te σ H (is (rLst R) xs)) (h1 : Evl.EvO tl σ H lo) (h2 : Evl.EvO th σ H hi) : EvP (tSl (rSlL K) te tl th) σ H (nw (rLst R) ((xs.drop (HT.sIx xs.length 0 lo)).take (HT.sIx xs.length xs.length hi - HT.sIx xs.length 0 lo))) := fun H1 e Q q =>
  h H1 e _ fun v H2 e2 ⟨a, vs, ev, hv, r⟩ => h1 H2 (e.trans e2) _ fun H3 e3 => h2 H3 ((e.trans e2).trans e3) _ fun H4 e4 => ⟨a, vs, ev, .inl (.inl (e4 a _ (e3 a _ hv))), fun b hb =>
    q _ _ (((e2.trans e3).trans e4).trans (Ex.new hb)) ⟨b, rfl, Evl.fresh_back ((e2.trans e3).trans e4) hb, b, _, rfl, upd_same, pmap (pcut r lo hi) fun _ _ z => up ((e3.trans e4).trans (Ex.new hb)) z⟩⟩
theorem slL_hi [Mono R] {m : Nat} (h : EvP te σ H (is (rLst R) xs)) (h2 : Ev ti σ H (.int (m : Nat))) : EvP (tSl (rSlL K) te tNoPart (tPart ti)) σ H (nw (rLst R) (xs.take m)) := by
  rw [← sl_hi]
  exact slL h Evl.eo_none (Evl.eo_some h2)
theorem slT [Mono R] {tl th : TO} {lo hi : Option Int} (h : EvP te σ H (is (rTupR R) xs)) (h1 : Evl.EvO tl σ H lo) (h2 : Evl.EvO th σ H hi) : EvP (tSl (rSlA K) te tl th) σ H (is (rTupR R) ((xs.drop (HT.sIx xs.length 0 lo)).take (HT.sIx xs.length xs.length hi - HT.sIx xs.length 0 lo))) := fun H1 e Q q =>
  h H1 e _ fun v H2 e2 ⟨a, vs, ev, hv, r⟩ => h1 H2 (e.trans e2) _ fun H3 e3 => h2 H3 ((e.trans e2).trans e3) _ fun H4 e4 => ⟨a, vs, ev, .inl (Evl.ex_rd (e3.trans e4) hv), fun ⟨z1, z2⟩ => by
      rw [plen r] at z1 z2
      refine q _ _ ((e2.trans e3).trans e4) ⟨a, vs, rfl, Evl.ex_rd (e3.trans e4) hv, ?_⟩
      rw [z1, z2, List.drop_zero, Nat.sub_zero, List.take_length]
      exact pmap r fun _ _ z => up (e3.trans e4) z, fun _ b hb =>
    q _ _ (((e2.trans e3).trans e4).trans (Ex.new hb)) ⟨b, _, rfl, .inl upd_same, pmap (pcut r lo hi) fun _ _ z => up ((e3.trans e4).trans (Ex.new hb)) z⟩⟩
theorem slT_hi [Mono R] {m : Nat} (h : EvP te σ H (is (rTupR R) xs)) (h2 : Ev ti σ H (.int (m : Nat))) : EvP (tSl (rSlA K) te tNoPart (tPart ti)) σ H (is (rTupR R) (xs.take m)) := by
  rw [← sl_hi]
  exact slT h Evl.eo_none (Evl.eo_some h2)
theorem slT_lo [Mono R] {m : Nat} (h : EvP te σ H (is (rTupR R) xs)) (h2 : Ev ti σ H (.int (m : Nat))) : EvP (tSl (rSlA K) te (tPart ti) tNoPart) σ H (is (rTupR R) (xs.drop m)) := by
  rw [← sl_lo]
  exact slT h (Evl.eo_some h2) Evl.eo_none
theorem revL [Mono R] (h : EvP te σ H (is (rLst R) xs)) : EvP (tRevL K te) σ H (nw (rLst R) xs.reverse) := fun H1 e Q q =>
  h H1 e _ fun v H2 e2 ⟨a, vs, ev, hv, r⟩ => ⟨a, vs, ev, .inl (.inl hv), fun b hb => q _ _ (e2.trans (Ex.new hb)) ⟨b, rfl, Evl.fresh_back e2 hb, b, _, rfl, upd_same, pmap (prev r) fun _ _ z => up (Ex.new hb) z⟩⟩
/-! list(..), tuple(..), + -/
theorem list_l [Mono R] (h : EvP te σ H (is (rLst R) xs)) : EvP (tCB (qList K) (tCons te tNil)) σ H (nw (rLst R) xs) := fun H1 e Q q =>
  h H1 e _ fun v H2 e2 ⟨a, vs, ev, hv, r⟩ => ⟨a, vs, by rw [ev], .inl (.inl (.inl hv)), fun b hb => q _ _ (e2.trans (Ex.new hb)) ⟨b, rfl, Evl.fresh_back e2 hb, b, _, rfl, upd_same, pmap r fun _ _ z => up (Ex.new hb) z⟩⟩
theorem list_t [Mono R] (h : EvP te σ H (is (rTupR R) xs)) : EvP (tCB (qList K) (tCons te tNil)) σ H (nw (rLst R) xs) := fun H1 e Q q =>
  h H1 e _ fun v H2 e2 ⟨a, vs, ev, hv, r⟩ => ⟨a, vs, by rw [ev], .inr (.inl hv), fun b hb => q _ _ (e2.trans (Ex.new hb)) ⟨b, rfl, Evl.fresh_back e2 hb, b, _, rfl, upd_same, pmap r fun _ _ z => up (Ex.new hb) z⟩⟩
theorem tuple_l [Mono R] (h : EvP te σ H (is (rLst R) xs)) : EvP (tCB (qTuple K) (tCons te tNil)) σ H (nw (rTup R) xs) := fun H1 e Q q =>
  h H1 e _ fun v H2 e2 ⟨a, vs, ev, hv, r⟩ => ⟨a, vs, by rw [ev], .inl ⟨.inl (.inl hv), fun b hb => q _ _ (e2.trans (Ex.new hb)) ⟨b, rfl, Evl.fresh_back e2 hb, b, _, rfl, upd_same, pmap r fun _ _ z => up (Ex.new hb) z⟩⟩⟩
theorem cat_l [Mono R] (h1 : EvP ta σ H (is (rLst R) xs)) (h2 : EvP tb σ H (is (rLst R) ys)) (hl : xs.length + ys.length ≤ 100000) : EvP (tOp rCat ta tb) σ H (nw (rLst R) (xs ++ ys)) := fun H1 e Q q =>
  h1 H1 e _ fun v H2 e2 r => h2 H2 (e.trans e2) _ fun w H3 e3 ⟨b, ws, ew, hw, rw'⟩ => by
    obtain ⟨a, vs, ev, hv, r⟩ := up (R := rLst R) e3 r
    exact ⟨a, b, vs, ws, ev, ew, hv, hw, by rw [plen r, plen rw']; exact Evl.sz_of hl, fun c hc => q _ _ ((e2.trans e3).trans (Ex.new hc)) ⟨c, rfl, Evl.fresh_back (e2.trans e3) hc, c, _, rfl, upd_same, pmap (papp r rw') fun _ _ z => up (Ex.new hc) z⟩⟩
theorem cat_t [Mono R] (h1 : EvP ta σ H (is (rTup R) xs)) (h2 : EvP tb σ H (is (rTup R) ys)) (hl : xs.length + ys.length ≤ 100000) : EvP (tOp (rCatA K) ta tb) σ H (is (rTup R) (xs ++ ys)) := fun H1 e Q q =>
  h1 H1 e _ fun v H2 e2 r => h2 H2 (e.trans e2) _ fun w H3 e3 ⟨b, ws, ew, hw, rw'⟩ => by
    obtain ⟨a, vs, ev, hv, r⟩ := up (R := rTup R) e3 r
    refine ⟨a, b, vs, ws, ev, ew, .inl (.inl hv), .inl (.inl hw), by rw [plen r, plen rw']; exact Evl.sz_of hl, fun z => ?_, fun _ z => ?_, fun _ _ c hc => q _ _ ((e2.trans e3).trans (Ex.new hc)) ⟨c, _, rfl, upd_same, pmap (papp r rw') fun _ _ z => up (Ex.new hc) z⟩⟩
    · subst z
      cases r
      exact q _ _ (e2.trans e3) ⟨b, ws, rfl, hw, rw'⟩
    · subst z
      cases rw'
      exact q _ _ (e2.trans e3) ⟨a, vs, rfl, hv, by rw [List.append_nil]; exact r⟩
theorem cat_tR [Mono R] (h1 : EvP ta σ H (is (rTupR R) xs)) (h2 : EvP tb σ H (is (rTupR R) ys)) (hl : xs.length + ys.length ≤ 100000) : EvP (tOp (rCatA K) ta tb) σ H (is (rTupR R) (xs ++ ys)) := fun H1 e Q q =>
  h1 H1 e _ fun v H2 e2 r => h2 H2 (e.trans e2) _ fun w H3 e3 ⟨b, ws, ew, hw, rw'⟩ => by
    obtain ⟨a, vs, ev, hv, r⟩ := up (R := rTupR R) e3 r
    refine ⟨a, b, vs, ws, ev, ew, .inl hv, .inl hw, by rw [plen r, plen rw']; exact Evl.sz_of hl, fun z => ?_, fun _ z => ?_, fun _ _ c hc => q _ _ ((e2.trans e3).trans (Ex.new hc)) ⟨c, _, rfl, .inl upd_same, pmap (papp r rw') fun _ _ z => up (Ex.new hc) z⟩⟩
    · subst z
      cases r
      exact q _ _ (e2.trans e3) ⟨b, ws, rfl, hw, rw'⟩
    · subst z
      cases rw'
      exact q _ _ (e2.trans e3) ⟨a, vs, rfl, hv, by rw [List.append_nil]; exact r⟩
/-! fields and methods -/
theorem fld {a C dx : Addr} {fs : List (Str × V)} {f : Str} (h : Ev te σ H (.ref a)) (ha : H a = some (.ins C dx fs)) (hc : Cls K C) (hn : NoAttr K C f) (hf : fs.lookup f = some v) : Ev (tFld K te f) σ H v := fun H1 e Q q =>
  h H1 e _ fun H2 e2 => ⟨a, C, dx, fs, v, rfl, (e.trans e2) a _ ha, hc, hn, hf, q H2 e2⟩
theorem mcall {ι : Type} {A : ι → List V → Hp → Prop} {P : ι → Hp → V → Hp → Prop} {E : XK} {C : Addr} {m : Str} {Pr : List V → Hp → Prop} [Mono R] (i : ι) (ho : EvP ta σ H (is R x)) (ob : ∀ {H v}, R H v x → ∃ a dx fs, v = .ref a ∧ H a = some (.ins C dx fs) ∧ fs.lookup m = none)
    (hr : EvAs tr σ H Pr) (hA : ∀ v vs H2, R H2 v x → Pr vs H2 → A i (v :: vs) H2) : EvP (tMeth C m (spOf A P) [] E ta tr) σ H (fun H1 v H2 => ∃ Hm, Ex H1 Hm ∧ P i Hm v H2) := fun H1 e Q q =>
  ho H1 e _ fun v H2 e2 r => by
    obtain ⟨a, dx, fs, ev, ha, hf⟩ := ob r
    exact ⟨a, dx, fs, ev, ha, hf, hr H2 (e.trans e2) _ fun vs H3 e3 p => ⟨i, by rw [List.append_nil]; exact hA v vs H3 (up e3 r) p, fun w H4 e4 z => q w H4 ((e2.trans e3).trans e4) ⟨H3, e2.trans e3, z⟩⟩⟩
theorem EvP.m_is {P : Hp → V → Hp → Prop} (h : EvP te σ H (fun H1 v H2 => ∃ Hm, Ex H1 Hm ∧ P Hm v H2)) (k : ∀ H1 v H2, P H1 v H2 → is R x H1 v H2) : EvP te σ H (is R x) := h.imp fun _ v H2 _ _ ⟨Hm, _, p⟩ => k Hm v H2 p
theorem EvP.m_dn {P : Hp → V → Hp → Prop} [Dn P] (h : EvP te σ H (fun H1 v H2 => ∃ Hm, Ex H1 Hm ∧ P Hm v H2)) : EvP te σ H P := h.imp fun _ v H2 _ _ ⟨Hm, e, p⟩ => Dn.dn e p
/-- a call, in the words of the promise -/
theorem call_ {ι : Type} {A : ι → List V → Hp → Prop} {P : ι → Hp → V → Hp → Prop} {E : XK} (i : ι) [Dn (P i)] (h : EvAs tr σ H (A i)) : EvP (tCall (spOf A P) [] E tr) σ H (P i) := (call i h).m_dn
theorem mcall_ {ι : Type} {A : ι → List V → Hp → Prop} {P : ι → Hp → V → Hp → Prop} {E : XK} {C : Addr} {m : Str} {Pr : List V → Hp → Prop} [Mono R] (i : ι) [Dn (P i)] (ho : EvP ta σ H (is R x)) (ob : ∀ {H v}, R H v x → ∃ a dx fs, v = .ref a ∧ H a = some (.ins C dx fs) ∧ fs.lookup m = none)
    (hr : EvAs tr σ H Pr) (hA : ∀ v vs H2, R H2 v x → Pr vs H2 → A i (v :: vs) H2) : EvP (tMeth C m (spOf A P) [] E ta tr) σ H (P i) := (mcall i ho ob hr hA).m_dn
/-! changes -/
theorem r_drop (h : EvP te σ H P) (k : ∀ v H1, Ex H H1 → P H v H1 → D.nx σ H1) : tDrop te D σ H := h H (Ex.refl _) _ k
theorem r_append {l : Addr} {vs : List V} (hl : H l = some (.lst vs)) (ho : Ev ta σ H (.ref l)) [Dn P] (h : EvP te σ H P) (hz : vs.length < 100000) (k : ∀ v H1, Ex H H1 → P H v H1 → D.nx σ (upd H1 l (.lst (vs ++ [v])))) : tDrop (tBM K "list" rAppend ta (tCons te tNil)) D σ H :=
  ho H (Ex.refl _) _ fun H1 e1 => ⟨.inl ⟨rfl, vs, .inl (.inl (e1 l _ hl))⟩, h.up e1 H1 (Ex.refl _) _ fun v H2 e2 p => ⟨l, vs, v, rfl, rfl, e2 l _ (e1 l _ hl), Evl.sz_lt hz, k v H2 (e1.trans e2) (Dn.dn e1 p)⟩⟩
theorem r_extend {l : Addr} {vs : List V} (hl : H l = some (.lst vs)) (ho : Ev ta σ H (.ref l)) (h : EvP te σ H (is (rLst R) xs)) (hz : vs.length + xs.length ≤ 100000) (k : ∀ ws H1, Ex H H1 → Paired (R H1) ws xs → D.nx σ (upd H1 l (.lst (vs ++ ws)))) : tDrop (tBM K "list" rExtend ta (tCons te tNil)) D σ H :=
  ho H (Ex.refl _) _ fun H1 e1 => ⟨.inl ⟨rfl, vs, .inl (.inl (e1 l _ hl))⟩, h.up e1 H1 (Ex.refl _) _ fun v H2 e2 ⟨b, ws, ev, hb, r⟩ => ⟨l, b, vs, ws, rfl, by rw [ev], e2 l _ (e1 l _ hl), hb, by rw [plen r]; exact Evl.sz_of hz, k ws H2 (e1.trans e2) r⟩⟩
theorem r_dputS [Mono R] {d : Addr} {kvs : List (Key × V)} {s : Str} (hd : H d = some (.dK kvs)) (hv : EvP tc σ H (is R x)) (ho : Ev ta σ H (.ref d)) (hk : EvP tb σ H (is rStr s)) (hz : kvs.length < 100000) (k : ∀ v H1, Ex H H1 → R H1 v x → D.nx σ (upd H1 d (.dK (putK kvs (kS s) v)))) : sDPut ta tb tc D σ H :=
  hv H (Ex.refl _) _ fun v H1 e1 r => ho H1 e1 _ fun H2 e2 => strV hk H2 (e1.trans e2) _ fun H3 e3 => ⟨d, _, rfl, .inl ⟨kvs, kS s, e3 d _ (e2 d _ (e1 d _ hd)), rfl, Evl.sz_lt hz, rfl⟩, k v H3 ((e1.trans e2).trans e3) (up (e2.trans e3) r)⟩
theorem r_dputT [Mono R] {d : Addr} {kvs : List (List Key × V)} {p : List Str} (hd : H d = some (.dT kvs)) (hv : EvP tc σ H (is R x)) (ho : Ev ta σ H (.ref d)) (hk : EvP tb σ H (is rPt p)) (hz : kvs.length < 100000) (k : ∀ v H1, Ex H H1 → R H1 v x → D.nx σ (upd H1 d (.dT (putK kvs (kT p) v)))) : sDPut ta tb tc D σ H :=
  hv H (Ex.refl _) _ fun v H1 e1 r => ho H1 e1 _ fun H2 e2 => hk H2 (e1.trans e2) _ fun w H3 e3 rk => by
    obtain ⟨b, rfl, hb, _⟩ := rPt_at rk
    exact ⟨d, _, rfl, .inr ⟨kvs, kT p, b, e3 d _ (e2 d _ (e1 d _ hd)), rfl, hb, Evl.sz_lt hz, rfl⟩, k v H3 ((e1.trans e2).trans e3) (up (e2.trans e3) r)⟩
theorem dnewT : EvP tDNewT σ H (fun H1 v H2 => ∃ a, v = .ref a ∧ H1 a = none ∧ H2 a = some (.dT [])) := fun H1 e Q q a ha => q _ _ (Ex.new ha) ⟨a, rfl, ha, upd_same⟩
theorem dnewK : EvP tDNewK σ H (fun H1 v H2 => ∃ a, v = .ref a ∧ H1 a = none ∧ H2 a = some (.dK [])) := fun H1 e Q q a ha => q _ _ (Ex.new ha) ⟨a, rfl, ha, upd_same⟩
theorem keysT {H H' : Hp} : ∀ {kvs : List (List Key × V)} {m : List (List Str × β)} {bs : List Addr}, Paired (fun (kv : List Key × V) z => (kv.1 = kT z.1 ∧ ∀ x ∈ z.1, sOk x) ∧ R H kv.2 z.2) kvs m → Ex H H' → Paired (fun (p : List Key × V) b => H b = some (.tup (p.1.map kV))) kvs bs → Paired (rPt H') (bs.map V.ref) (m.map (·.1))
  | _, _, _, .nil, _, .nil => .nil
  | _, _, _, .cons h t, e, .cons k1 k2 => .cons (rPt_of (by rw [← h.1.1]; exact e _ _ k1) h.1.2) (keysT t e k2)
theorem keysS {H H' : Hp} : ∀ {kvs : List (Key × V)} {m : List (Str × β)}, Paired (fun (kv : Key × V) z => (kv.1 = kS z.1 ∧ sOk z.1) ∧ R H kv.2 z.2) kvs m → Paired (rStr H') (kvs.map fun kv => kV kv.1) (m.map (·.1))
  | _, _, .nil => .nil
  | _, _, .cons (a := a) h t => .cons ⟨(congrArg kV h.1.1 : kV a.1 = kV (kS _)), h.1.2⟩ (keysS t)
/-- list(d), d with tuples as keys -/
theorem list_dT {m : List (List Str × β)} (h : EvP te σ H (is (rDit R) m)) : EvP (tCB qListT (tCons te tNil)) σ H (nw (rLst rPt) (m.map (·.1))) := fun H1 e Q q =>
  h H1 e _ fun v H2 e2 ⟨a, kvs, ev, hv, r⟩ => ⟨a, kvs, by rw [ev], hv, fun b bs hb hk => q _ _ (e2.trans (Ex.new hb)) ⟨b, rfl, Evl.fresh_back e2 hb, b, _, rfl, upd_same, keysT r (Ex.new hb) hk⟩⟩
/-- list(d), d with texts as keys -/
theorem list_dK {m : List (Str × β)} (h : EvP te σ H (is (rDicU R) m)) : EvP (tCB rListD (tCons te tNil)) σ H (nw (rLst rStr) (m.map (·.1))) := fun H1 e Q q =>
  h H1 e _ fun v H2 e2 ⟨a, kvs, ev, hv, r⟩ => ⟨a, kvs, by rw [ev], hv, fun b hb => q _ _ (e2.trans (Ex.new hb)) ⟨b, rfl, Evl.fresh_back e2 hb, b, _, rfl, upd_same, keysS r⟩⟩
end
end FM
namespace FM
open PySem PySem.Spec PyProof.Rows L2
open Evl (Ex EvT Ev)
/-! a dict with points as keys, walked -/
section
variable {K : PySem.W.Frag} {σ : L2.St} {H : Hp} {te : TE} {β γ : Type} {R : Rdr β} {S : Rdr γ} {m : List (List Str × β)} {d : Addr} {kvs : List (List Key × V)}
abbrev KvT (R : Rdr β) (H : Hp) (kvs : List (List Key × V)) (m : List (List Str × β)) : Prop := Paired (fun (kv : List Key × V) z => (kv.1 = kT z.1 ∧ ∀ x ∈ z.1, sOk x) ∧ R H kv.2 z.2) kvs m
theorem i_keysT' {o : Obj} (h : Ev te σ H (.ref d)) (hd : H d = some (.frz o (.dT kvs))) (r : KvT R H kvs m) : EvI (iKeys te) σ H (m.map (·.1)).length (ith rPt (m.map (·.1))) := by
  rw [List.length_map]
  exact i_keysT h hd r
/-- a new list that is made while the dict is locked -/
theorem lockE [MoT S] {x : List γ} (hd : H d = some (.dT kvs)) (h : ∀ od, EvP te σ (upd H d (.frz od (.dT kvs))) (nw (rLst S) x)) : EvP (tLockE te) σ H (nw (rLst S) x) := fun H1 e Q q =>
  ⟨d, .dT kvs, e d _ hd, trivial, fun od => h od _ (ex_lock e) _ fun v H2 e2 ⟨a, ev, hn, b, vs, eb, hb, r⟩ => by
    have h2 : H2 d = some (.frz od (.dT kvs)) := e2 d _ upd_same
    have hne : a ≠ d := fun z => by subst z; rw [upd_same] at hn; cases hn
    rw [upd_ne hne] at hn
    subst ev
    cases eb
    exact ⟨h2, q _ _ (ex_unlock (e d _ hd) e2) ⟨a, rfl, hn, a, vs, rfl, by rw [upd_ne hne]; exact hb, pmap r fun _ _ z => upT (Tx.upd h2 (fun _ k => by cases k) fun _ _ k => by cases k) z⟩⟩⟩
theorem j_keysT {o : Obj} (h : Ev te σ H (.ref d)) (hd : H d = some (.frz o (.dT kvs))) (r : KvT R H kvs m) : EvJ (iKeys te) σ H (m.map (·.1)).length (ith rPt (m.map (·.1))) := by
  rw [List.length_map]
  exact fun H1 e Q q => h H1 e _ fun H2 e2 => by
    have hn := hov_old (H2 := H2) e e2
    refine ⟨d, o, rfl, .inr ⟨kvs, e2 d _ (e d _ hd), q _ H2 (hov H H1 H2) e2 hn (hov_le e e2) hov_only ⟨fun i H3 hi e3 => ⟨e3 d _ (hn d _ hd), by rw [plen r]; exact hi⟩, fun i H3 x H4 hi e3 y => ?_, fun H3 e3 => ⟨e3 d _ (hn d _ hd), Nat.le_of_eq (plen r)⟩⟩⟩⟩
    obtain ⟨rfl, k, v, b, hk, rfl, hb⟩ := y
    obtain ⟨z, hz, ⟨e1, e4⟩, _⟩ := pget r hk
    have e1 : k = kT z.1 := e1
    subst e1
    exact ⟨Ex.refl _, z.1, by rw [List.getElem?_map, hz]; rfl, rPt_of hb e4⟩
end
end FM

/-! ## FRules -/
set_option Elab.async false
set_option linter.all false
set_option maxRecDepth 100000
set_option maxHeartbeats 2000000
/-! Rules that the layer lacks: data in tuples, count and index of held tuples, new held tuples. -/
namespace FM
open PySem PySem.Spec PyProof.Rows L2
open Evl (Ex EvT Ev)
section
variable {X : Cx} (K : PySem.W.Frag)
/-- x in t, t a tuple of data -/
def rInDT (K : PySem.W.Frag) : R2 := fun x y H Q => ∃ d ds, Dp K H x d ∧ Dp K H y (.tuple ds) ∧ SeqAt.shaped d = true ∧ SeqAt.shaped (.tuple ds) = true ∧ Q (.bl (ds.any fun z => PyData.eqv z d)) H
theorem k_inDT (hu : X.A.units + 65 < cLine) (ek : X.K = K := by rfl) : OpR X (compareOp .In) (rInDT K) := by
  subst ek
  rintro pins s σ H x y v u Q I rx ry ⟨d, ds, hd, he, sd, se, q⟩
  obtain ⟨as, h1⟩ := Dp.reads I d x v hd rx
  obtain ⟨bs, h2⟩ := Dp.reads I (.tuple ds) y u he ry
  exact SeqAt.in_tuple_reads h2 h1 (SeqAt.canLay_of_shaped se) (SeqAt.canLay_of_shaped sd) (room_in_shaped sd hu) ⟨.bl _, H, I, rfl, q⟩
/-- tuple(l): what is new is held, and bears no dict -/
def qTupleN (K : PySem.W.Frag) : List V → Hp → VK → Prop := fun xs H Q => ∃ p ys, xs = [.ref p] ∧ SqL K H p ys ∧ ∀ l ob, H l = none → ob.dict = none → Q (.ref l) (upd H l (.frz ob (.tup ys)))
theorem k_tupleN (ek : X.K = K := by rfl) : CallR X (.type "tuple") (qTupleN K) := by
  subst ek
  rintro pins s σ H xs us Q I r ⟨p, ys, rfl, hq, q⟩
  obtain ⟨u, rfl, rx⟩ := vals1 r
  cases rx
  obtain ⟨its, rv, pl, hz⟩ := I.list hq
  have hn := rv.length
  refine call_tuple_list pl.isList (fun g kp => ?_) (by simp only [List.size_toArray] <;> omega)
  have J : Inv X pins σ H { s with heap := g } := I.kept (t' := s.toks) kp
  have J2 : Inv X pins σ (upd H g.objs.size (.frz { cls := .type "tuple", data := .seq its.toArray } (.tup ys))) { s with heap := g.push { cls := .type "tuple", data := .seq its.toArray } } :=
    J.laid (t' := s.toks) (fun b o e => Heap.get?_push_of_some _ e) (Nat.le_refl _) (show ObjOk X.prog X.w _ _ _ (.frz _ (.tup ys)) from ⟨Heap.get?_push_size _ rfl, hz, its, rv, IsTup.new _ _⟩)
  exact ⟨.ref g.objs.size, _, J2, rfl, q _ _ (J.hok.fresh (Nat.le_refl _)) rfl⟩
/-- the parts of a method call on a held tuple that bears no dict -/
def tTM (r : V → List V → Hp → VK → Prop) (to : TE) (t : TA) : TE := fun σ H Q => to σ H fun x H1 => (∃ a vs ob, x = V.ref a ∧ H1 a = some (.frz ob (.tup vs)) ∧ ob.dict = none) ∧ t σ H1 fun xs H2 => r x xs H2 Q
section
variable {o e : Expr} {es : List Expr} {to : TE} {t : TA} {name : Str} {apos cpos : Pos} {id : String} {r : V → List V → Hp → VK → Prop}
theorem k_tm (slot : Slot "tuple" name id) (hty : typeOf (.builtin id) = pure (.type "method_descriptor")) (hm : MtR X id r) (ho : PE X o to) (ha : PA X (e :: es) t)
    (hbase : attributeBase o name X.env (eval o X.env) = eval o X.env := by rfl)
    (hfew : ((backTo cpos (starEach (e :: es) X.env)).all (fun x => !x.1) && (backToKw cpos (keywordEach [] X.env)).all (fun x => x.1.isSome) && decide ((e :: es).length + ([] : List Keyword).length + (if ([] : List Keyword).isEmpty then 0 else 1) < 30)) = true := by rfl)
    (hline : (apos.endLine == cpos.line) = true := by rfl) (hs : starEach (e :: es) X.env = (false, eval e X.env) :: starEach es X.env := by rfl) (hplain : (backTo cpos (starEach es X.env)).any (·.1) = false := by rfl) :
    PE X (.Call (.Attribute o name apos) (e :: es) [] cpos) (tTM r to t) := by
  refine ⟨fun pins s σ H Q I h => ?_⟩
  refine wpAny_Call_method_late hbase hfew hline rfl (thn (ho.run pins s σ H _ I h) fun v s1 ⟨x, H1, I1, r1, ⟨a, vs, ob, ex, ha', hd⟩, q1⟩ => ?_)
  subst ex
  cases r1
  obtain ⟨hob, _, its, rv, c, hc1, hc2, _⟩ := (show ObjOk X.prog X.w H1 s1.heap a (.frz ob (.tup vs)) from I1.hok a _ ha')
  rw [hob] at hc1
  cases hc1
  refine ⟨"tuple", id, PySem.F.plainAttrs_tuple, slot, hty, ⟨ob, hob, hc2⟩, fun b eb => ?_, ?_⟩
  · cases eb
    exact ⟨ob, hob, hd⟩
  · have hargs := thn (ha.run cpos pins s1 σ H1 _ I1 q1) fun us s2 ⟨xs, H2, I2, r2, q2⟩ => hm pins s2 σ H2 (.ref a) xs (.ref a) us Q I2 rfl r2 q2
    rw [hs] at hargs ⊢
    have hno : ((backTo cpos ((false, eval e X.env) :: starEach es X.env)).any (·.1)) = false := hplain
    exact Calls.callWith_builtin hno (Calls.evalArgs_plain hargs)
end
/-- t.count(x), t.index(x), data -/
def qCount (K : PySem.W.Frag) : V → List V → Hp → VK → Prop := fun x xs H Q => ∃ (a : Addr) (y : V) (d : PyData) (ds : List PyData), x = V.ref a ∧ xs = [y] ∧ Dp K H (V.ref a) (.tuple ds) ∧ Dp K H y d ∧ SeqAt.shaped (.tuple ds) = true ∧ SeqAt.shaped d = true ∧ Q (.int (ds.countP (fun z => PyData.eqv z d) : Nat)) H
def qIndex (K : PySem.W.Frag) : V → List V → Hp → VK → Prop := fun x xs H Q => ∃ (a : Addr) (y : V) (d : PyData) (ds : List PyData) (j : Nat) (z : PyData), x = V.ref a ∧ xs = [y] ∧ Dp K H (V.ref a) (.tuple ds) ∧ Dp K H y d ∧ SeqAt.shaped (.tuple ds) = true ∧ SeqAt.shaped d = true ∧
  ds[j]? = some z ∧ PyData.eqv z d = true ∧ (∀ (m : Nat) (z' : PyData), m < j → ds[m]? = some z' → PyData.eqv z' d = false) ∧ Q (.int (j : Nat)) H
/-- a tuple of data, as it lies -/
theorem tup_data {pins : List (Addr × Obj)} {σ : L2.St} {H : Hp} {s : Shared} {a : Addr} {ds : List PyData} (I : Inv X pins σ H s) (h : Dp X.K H (V.ref a) (.tuple ds)) :
    ∃ (its : List Value) (n : Nat) (dd : Option Addr) (sl : Array (Option Value)) (as : List Addr), s.heap.get? a = some { cls := .type "tuple", dict := dd, data := .seq its.toArray n, slots := sl } ∧ ReadsAll s.heap its ds as := by
  cases h with
  | tup hs ha =>
    obtain ⟨its, rv, ⟨⟨cls, dd, data, sl⟩, ho, hc, n, hd⟩, _⟩ := I.tuple hs
    simp only at hc hd
    subst hc hd
    obtain ⟨as, r⟩ := Dp.readsAll I ds _ its ha rv
    exact ⟨its, n, dd, sl, as, ho, r⟩
theorem k_count (hu : X.A.units + 65 < cLine) (ek : X.K = K := by rfl) : MtR X "tuple.count" (qCount K) := by
  subst ek
  rintro pins s σ H x xs v us Q I rx rxs ⟨a, y, d, ds, rfl, rfl, hl, hy, sl', sd, q⟩
  cases rx
  obtain ⟨u, rfl, ry⟩ := vals1 rxs
  obtain ⟨bs, r1⟩ := Dp.reads I d y u hy ry
  obtain ⟨its, n, dd, sl, as, ho, r2⟩ := tup_data I hl
  have hlay : PyData.canLayAll0 ds = true := SeqAt.canLay_of_shaped sl'
  have hmap : its.map (SeqAt.readOf s.heap) = ds := SeqAt.readsAll_map ds its as hlay r2
  refine call_meets PySem.F.slot_tuple_count ⟨_, ho, rfl⟩ PySem.F.entry_tuple_count (PySem.F.args_tuple_count_2 _ _) (SeqAt.tuple_countAt a its.toArray n dd sl u (fun w => PyData.eqv (SeqAt.readOf s.heap w) d))
    ⟨ho, SeqAt.items_eqAt (vs := its.toArray) r2 r1 hlay (SeqAt.canLay_of_shaped sd) (room_in_shaped sd hu), ⟨.int (ds.countP (fun z => PyData.eqv z d) : Nat), H, I.tok _, ⟨s.toks, ?_⟩, q⟩⟩
  rw [← hmap, List.countP_map]
  rfl
theorem k_index' (hu : X.A.units + 65 < cLine) (ek : X.K = K := by rfl) : MtR X "tuple.index" (qIndex K) := by
  subst ek
  rintro pins s σ H x xs v us Q I rx rxs ⟨a, y, d, ds, j, z, rfl, rfl, hl, hy, sl', sd, hz, hzd, hno, q⟩
  cases rx
  obtain ⟨u, rfl, ry⟩ := vals1 rxs
  obtain ⟨bs, r1⟩ := Dp.reads I d y u hy ry
  obtain ⟨its, n, dd, sl, as, ho, r2⟩ := tup_data I hl
  have hlay : PyData.canLayAll0 ds = true := SeqAt.canLay_of_shaped sl'
  have hmap : its.map (SeqAt.readOf s.heap) = ds := SeqAt.readsAll_map ds its as hlay r2
  have hlen : its.length = ds.length := by rw [← hmap, List.length_map]
  have hj : j < its.toArray.size := by
    have := (List.getElem?_eq_some_iff.mp hz).1
    simp only [List.size_toArray]
    omega
  have item : ∀ (m : Nat) (hm : m < its.toArray.size), ds[m]? = some (SeqAt.readOf s.heap its.toArray[m]) := fun m hm => by
    rw [← hmap, List.getElem?_map]
    simp only [List.getElem_toArray]
    rw [List.getElem?_eq_getElem (by simpa using hm)]
    rfl
  refine call_meets PySem.F.slot_tuple_index ⟨_, ho, rfl⟩ PySem.F.entry_tuple_index (PySem.F.args_tuple_index_2 _ _) (TI.tuple_indexAt a its.toArray n dd sl u (fun w => PyData.eqv (SeqAt.readOf s.heap w) d) j hj ?_ fun m hm hmj => hno m _ hmj (item m hm))
    ⟨ho, SeqAt.items_eqAt (vs := its.toArray) r2 r1 hlay (SeqAt.canLay_of_shaped sd) (room_in_shaped sd hu), ⟨.int (j : Nat), H, I.tok _, ⟨s.toks, rfl⟩, q⟩⟩
  have e := item j hj
  rw [hz] at e
  cases e
  exact hzd
section
variable {o e : Expr} {es : List Expr} {to : TE} {t : TA} {apos cpos : Pos}
end
/-- dict(l), l a list of pairs -/
def qDictP (K : PySem.W.Frag) : List V → Hp → VK → Prop := fun xs H Q => ∃ (a : Addr) (ps : List Addr) (kvs : List (Key × V)), xs = [.ref a] ∧ SqL K H a (ps.map V.ref) ∧ Paired (fun p kv => SqT K H p [kV kv.1, kv.2]) ps kvs ∧ ∀ p, H p = none → Q (.ref p) (upd H p (.dK (mergeK [] kvs)))
theorem k_dictP (ek : X.K = K := by rfl) (hc : X.calm = true := by rfl) : CallR X (.type "dict") (qDictP K) := by subst ek; exact call_dictP hc
end
end FM

/-! ## FEv3 -/
set_option Elab.async false
set_option linter.all false
set_option maxRecDepth 100000
set_option maxHeartbeats 2000000
/-! What these come to. -/
namespace FM
open PySem PySem.Spec PyProof.Rows L2
open Evl (Ex EvT Ev)
section
variable {K : PySem.W.Frag} {σ : L2.St} {H : Hp} {te ta tb : TE} {β γ : Type} {R : Rdr β} {S : Rdr γ} {xs : List β} {x : β}
/-- a value that stands for this datum, as long as the heap grows -/
def isD (K : PySem.W.Frag) (d : PyData) : Hp → V → Hp → Prop := fun _ v H2 => ∀ H3, Ex H2 H3 → Dp K H3 v d
theorem EvP.d [DecidableEq β] [Mono R] [Dt : Dat R] (h : EvP te σ H (is R x)) : EvP te σ H (isD K (Dt.enc x)) := h.imp fun _ v H2 _ _ r H3 e => Dt.dp (FM.up e r)
theorem shape_of [DecidableEq β] [Dt : Dat R] (hd : Dt.dep ≤ 64 := by decide) {H' : Hp} {v : V} (r : R H' v x) : SeqAt.shaped (Dt.enc x) = true := Dat.shaped hd r
theorem inDTup [DecidableEq β] [Mono R] [Dt : Dat R] (hd : Dt.dep + 1 ≤ 64) (hs : SeqAt.shaped (Dt.enc x) = true) (ha : EvP ta σ H (isD K (Dt.enc x))) (hb : EvP tb σ H (is (rTupR R) xs)) : Ev (tOp (rInDT K) ta tb) σ H (.bl (isIn x xs)) := fun H1 e Q q =>
  ha H1 e _ fun u H2 e2 r => hb H2 (e.trans e2) _ fun w H3 e3 r2 => ⟨_, xs.map Dt.enc, r H3 e3, Dat.dp (R := rTupR R) r2, hs, Dat.shaped (R := rTupR R) hd r2, by
    rw [any_enc]; exact q H3 (e2.trans e3)⟩
/-- == of a value and a datum -/
theorem eqK [DecidableEq β] [Mono R] [Dt : Dat R] {y : β} (hd : Dt.dep ≤ 64) (hs : SeqAt.shaped (Dt.enc y) = true) (ha : EvP ta σ H (is R x)) (hb : EvP tb σ H (isD K (Dt.enc y))) : Ev (tOp (rEqD K) ta tb) σ H (.bl (decide (x = y))) := fun H1 e Q q =>
  ha H1 e _ fun u H2 e2 r => hb H2 (e.trans e2) _ fun w H3 e3 r2 => ⟨_, _, Dt.dp (FM.up e3 r), r2 H3 (Ex.refl _), Dat.shaped hd (FM.up e3 r), hs, by
    rw [Dt.eqv]; exact q H3 (e2.trans e3)⟩
theorem countP_enc [DecidableEq β] [Dt : Dat R] (xs : List β) (x : β) : (xs.map Dt.enc).countP (fun z => PyData.eqv z (Dt.enc x)) = xs.countP fun y => decide (y = x) := by
  rw [List.countP_map]
  refine List.countP_congr fun y _ => ?_
  show PyData.eqv (Dt.enc y) (Dt.enc x) = true ↔ _
  rw [Dt.eqv]
theorem countT [DecidableEq β] [Mono R] [Dt : Dat R] (hd : Dt.dep + 1 ≤ 64) (hs : SeqAt.shaped (Dt.enc x) = true) (ho : EvP ta σ H (is (rTupN R) xs)) (hx : EvP tb σ H (isD K (Dt.enc x))) : Ev (tTM (qCount K) ta (tCons tb tNil)) σ H (.int (xs.countP fun y => decide (y = x) : Nat)) := fun H1 e Q q =>
  ho H1 e _ fun v H2 e2 r => by
    have r' := r
    obtain ⟨a, vs, ob, ev, ha, hn, _⟩ := r'
    subst ev
    refine ⟨⟨a, vs, ob, rfl, ha, hn⟩, hx H2 (e.trans e2) _ fun w H3 e3 r2 => ?_⟩
    have r3 := rTupN.r (FM.up e3 r)
    refine ⟨a, w, _, xs.map Dt.enc, rfl, rfl, Dat.dp (R := rTupR R) r3, r2 H3 (Ex.refl _), Dat.shaped (R := rTupR R) hd r3, hs, ?_⟩
    rw [countP_enc]
    exact q H3 (e2.trans e3)
theorem idxOf_hit [DecidableEq β] : ∀ {xs : List β} {x : β}, x ∈ xs → xs[xs.idxOf x]? = some x ∧ ∀ (m : Nat) (y : β), m < xs.idxOf x → xs[m]? = some y → y ≠ x
  | y :: xs, x, h => by
    rw [List.idxOf_cons]
    by_cases e : y = x
    · subst e
      simp
    · have e' : (y == x) = false := by simp [e]
      rw [e']
      obtain ⟨h1, h2⟩ := idxOf_hit ((List.mem_cons.mp h).resolve_left fun z => e z.symm)
      refine ⟨by simpa using h1, fun m z hm hz => ?_⟩
      cases m with
      | zero => simp at hz; subst hz; exact e
      | succ m => exact h2 m z (by simpa using hm) (by simpa using hz)
theorem indexT [DecidableEq β] [Mono R] [Dt : Dat R] (hd : Dt.dep + 1 ≤ 64) (hm : x ∈ xs) (hs : SeqAt.shaped (Dt.enc x) = true) (ho : EvP ta σ H (is (rTupN R) xs)) (hx : EvP tb σ H (isD K (Dt.enc x))) : Ev (tTM (qIndex K) ta (tCons tb tNil)) σ H (.int (xs.idxOf x : Nat)) := fun H1 e Q q =>
  ho H1 e _ fun v H2 e2 r => by
    have r' := r
    obtain ⟨a, vs, ob, ev, ha, hn, _⟩ := r'
    subst ev
    refine ⟨⟨a, vs, ob, rfl, ha, hn⟩, hx H2 (e.trans e2) _ fun w H3 e3 r2 => ?_⟩
    have r3 := rTupN.r (FM.up e3 r)
    obtain ⟨h1, h2⟩ := idxOf_hit hm
    refine ⟨a, w, _, xs.map Dt.enc, xs.idxOf x, Dt.enc x, rfl, rfl, Dat.dp (R := rTupR R) r3, r2 H3 (Ex.refl _), Dat.shaped (R := rTupR R) hd r3, hs, by rw [List.getElem?_map, h1]; rfl, by rw [Dt.eqv]; exact decide_eq_true rfl, fun m z hm' hz => ?_, q H3 (e2.trans e3)⟩
    rw [List.getElem?_map] at hz
    cases k : xs[m]? with
    | none => rw [k] at hz; cases hz
    | some y =>
      rw [k] at hz
      cases hz
      rw [Dt.eqv]
      exact decide_eq_false (h2 m y hm' k)
theorem tupleN [Mono R] (h : EvP te σ H (is (rLst R) xs)) : EvP (tCB (qTupleN K) (tCons te tNil)) σ H (nw (rTupN R) xs) := fun H1 e Q q =>
  h H1 e _ fun v H2 e2 ⟨a, vs, ev, hv, r⟩ => ⟨a, vs, by rw [ev], .inl (.inl hv), fun b ob hb hn => q _ _ (e2.trans (Ex.new hb)) ⟨b, rfl, Evl.fresh_back e2 hb, b, vs, ob, rfl, upd_same, hn, pmap r fun _ _ z => up (Ex.new hb) z⟩⟩
/-- a new pair of a text and a new list, for a comprehension -/
theorem pairF {ys : List β} {s : Str} [MoT R] [Mono R] (hs : sOk s) (h1 : Ev ta σ H (.str s)) (h2 : EvP tb σ H (nw (rLst R) ys)) : EvP (tTup (tCons ta (tCons tb tNil))) σ H (someF (rPair rStr (rLst R)) fun y => y = (s, ys)) := fun H1 e Q q =>
  h1 H1 e _ fun H2 e2 => h2 H2 (e.trans e2) _ fun v H3 e3 ⟨b, ev, hb, c, vs, ec, hc, r⟩ => by
    subst ev
    cases ec
    exact ⟨by show 2 ≤ sizeLine; decide, fun t ht => q _ _ ((e2.trans e3).trans (Ex.new ht)) ⟨_, rfl, fun H' k1 k2 => by
      have ht1 : H1 t = none := Evl.fresh_back (e2.trans e3) ht
      have hb1 : H1 b = none := Evl.fresh_back e2 hb
      have hbt : b ≠ t := fun z => by subst z; rw [ht] at hc; cases hc
      exact ⟨t, .str s, .ref b, rfl, k2.t upd_same, ⟨rfl, hs⟩, b, vs, rfl, k1 b _ hb1 (by rw [upd_ne hbt]; exact hc), pmap r fun _ _ z => upT ((Tx.of (Ex.new ht)).trans k2) z⟩⟩⟩
/-! dict(l) of a list of pairs -/
theorem putK_snoc : ∀ {kvs : List (Key × V)} {k : Key} {v : V}, k ∉ kvs.map (·.1) → putK kvs k v = kvs ++ [(k, v)] := fun {kvs k v} h => by
  unfold putK
  rw [if_neg]
  intro q
  obtain ⟨kv, h1, h2⟩ := List.any_eq_true.mp q
  exact h (List.mem_map.mpr ⟨kv, h1, of_decide_eq_true h2⟩)
theorem putT_snoc : ∀ {kvs : List (List Key × V)} {k : List Key} {v : V}, k ∉ kvs.map (·.1) → putK kvs k v = kvs ++ [(k, v)] := fun {kvs k v} h => by
  unfold putK
  rw [if_neg]
  intro q
  obtain ⟨kv, h1, h2⟩ := List.any_eq_true.mp q
  exact h (List.mem_map.mpr ⟨kv, h1, of_decide_eq_true h2⟩)
theorem mergeK_new : ∀ (more acc : List (Key × V)), (more.map (·.1)).Nodup → (∀ k ∈ more.map (·.1), k ∉ acc.map (·.1)) → mergeK acc more = acc ++ more
  | [], acc, _, _ => by unfold mergeK; simp
  | kv :: more, acc, h1, h2 => by
    rw [List.map_cons, List.nodup_cons] at h1
    have e : mergeK acc (kv :: more) = mergeK (putK acc kv.1 kv.2) more := rfl
    rw [e, putK_snoc (h2 kv.1 (by simp)), mergeK_new more _ h1.2 fun k hk q => ?_]
    · simp
    · rw [List.map_append, List.mem_append] at q
      rcases q with q | q
      · exact h2 k (by simp [hk]) q
      · simp at q
        exact h1.1 (by rw [← q]; exact hk)
theorem kS_nodup {m : List (Str × β)} {kvs : List (Key × V)} {G : V → β → Prop} (r : Paired (fun (kv : Key × V) z => (kv.1 = kS z.1 ∧ sOk z.1) ∧ G kv.2 z.2) kvs m) : kvs.map (·.1) = (m.map (·.1)).map kS := by
  induction r with
  | nil => rfl
  | cons h t ih => rw [List.map_cons, List.map_cons, List.map_cons, ih, h.1.1]
theorem kT_keys {m : List (List Str × β)} {kvs : List (List Key × V)} {G : V → β → Prop} (r : Paired (fun (kv : List Key × V) z => (kv.1 = kT z.1 ∧ ∀ x ∈ z.1, sOk x) ∧ G kv.2 z.2) kvs m) : kvs.map (·.1) = (m.map (·.1)).map kT := by
  induction r with
  | nil => rfl
  | cons h t ih => rw [List.map_cons, List.map_cons, List.map_cons, ih, h.1.1]
theorem nodup_map {α δ : Type} {f : α → δ} (hf : ∀ a b, f a = f b → a = b) : ∀ {l : List α}, l.Nodup → (l.map f).Nodup
  | [], _ => List.nodup_nil
  | a :: l, h => by
    rw [List.nodup_cons] at h
    rw [List.map_cons, List.nodup_cons]
    refine ⟨fun q => ?_, nodup_map hf h.2⟩
    obtain ⟨b, hb, e⟩ := List.mem_map.mp q
    rw [hf b a e] at hb
    exact h.1 hb
theorem pairs_split {H : Hp} : ∀ {vs : List V} {m : List (Str × β)}, Paired (rPair rStr R H) vs m → ∃ (ps : List Addr) (kvs : List (Key × V)), vs = ps.map V.ref ∧ Paired (fun p (kv : Key × V) => SqT K H p [kV kv.1, kv.2]) ps kvs ∧ Paired (fun (kv : Key × V) z => (kv.1 = kS z.1 ∧ sOk z.1) ∧ R H kv.2 z.2) kvs m
  | _, _, .nil => ⟨[], [], rfl, .nil, .nil⟩
  | _, _, .cons ⟨a, x, y, h1, h2, h3, h4⟩ t => by
    obtain ⟨ps, kvs, e, p1, p2⟩ := pairs_split t
    subst e h1
    obtain ⟨rfl, h5⟩ := h3
    exact ⟨a :: ps, (kS _, y) :: kvs, rfl, .cons (.inl (.inl h2)) p1, .cons ⟨⟨rfl, h5⟩, h4⟩ p2⟩
theorem dictP_ [Mono R] {m : List (Str × β)} (hn : (m.map (·.1)).Nodup) (h : EvP te σ H (nw (rLst (rPair rStr R)) m)) : EvP (tCB (qDictP K) (tCons te tNil)) σ H (is (rDic R) m) := fun H1 e Q q =>
  h H1 e _ fun v H2 e2 ⟨a, ev, _, b, vs, eb, hb, r⟩ => by
    subst ev
    cases eb
    obtain ⟨ps, kvs, e3, p1, p2⟩ := pairs_split (K := K) r
    subst e3
    refine ⟨a, ps, kvs, rfl, .inl (.inl hb), p1, fun p hp => q _ _ (e2.trans (Ex.new hp)) ⟨p, kvs, rfl, .inl ?_, pmap p2 fun _ _ z => ⟨z.1, up (Ex.new hp) z.2⟩⟩⟩
    rw [upd_same, mergeK_new kvs [] ?_ fun _ _ z => by simp at z]
    · rfl
    · rw [kS_nodup p2]
      exact nodup_map (fun _ _ z => Sum.inr.inj z) hn
end
end FM

/-! ## FMore -/
set_option Elab.async false
set_option linter.all false
set_option maxRecDepth 100000
set_option maxHeartbeats 2000000
/-! NEXT_STEP, the limits. -/
namespace FM
open PySem PySem.Spec PyProof.Rows L2
open Evl (Ex EvT Ev)
def nxt : List Str := ["next"]
section
variable {K : PySem.W.Frag} {mg : Str → Option Value} (T : Txt K mg) {σ : L2.St} {H : Hp}
include T
theorem Txt.more3 : (He.conB K "Hierarchy" "LIMIT" (.int 20) = true ∧ He.conB K "MethodTable" "LIMIT" (.int 40) = true) ∧ He.tupB K "NEXT_STEP" [.str "next"] = true := by
  have h := T.says.m
  unfold more at h
  rw [Bool.and_eq_true, Bool.and_eq_true, Bool.and_eq_true] at h
  exact ⟨h.1, h.2.1⟩
theorem Txt.lim_H : ∃ u, Con K (He.ga K "Hierarchy") "LIMIT" (.int 20) u := He.conB_ok T.more3.1.1
theorem Txt.lim_M : ∃ u, Con K (He.ga K "MethodTable") "LIMIT" (.int 40) u := He.conB_ok T.more3.1.2
theorem Txt.nxtD (H : Hp) : Dp K H (.ref (He.ga K "NEXT_STEP")) (Dat.enc rPt nxt) := .tup (He.tupB_ok T.more3.2 H) (.cons (.str _) .nil)
theorem Txt.nxt_ : EvP (tC (.ref (He.ga K "NEXT_STEP"))) σ H (isD K (Dat.enc rPt nxt)) := .of_ev Evl.ev_c fun _ _ _ _ H3 _ => T.nxtD H3
end
theorem nxt_ok : SeqAt.shaped (Dat.enc rPt nxt) = true := by decide +kernel
theorem sOk_of {s : Str} (h : PyData.canLay0 (.str s) = true) : sOk s := h
end FM

/-! ## FLaw1 -/
set_option Elab.async false
set_option linter.all false
set_option maxRecDepth 100000
set_option maxHeartbeats 2000000
/-! The law's own defs over points. -/
namespace FM
open PySem PySem.Spec PyProof.Rows L2
open Evl (Ex EvT Ev)
/-- who is at or above whom, as the law keeps it -/
def upsOf (rows : Rows Str) : List (Str × List Str) := rows.map fun r => (r.1, upAll rows [r.1])
theorem at_ups {rows : Rows Str} {x : Str} (h : x ∈ nms rows) : at? (upsOf rows) x = some (upAll rows [x]) := by
  have h2 : x ∈ (upsOf rows).map (·.1) := by
    unfold upsOf
    rw [List.map_map]
    exact h
  obtain ⟨v, e, hm⟩ := at?_some h2
  rw [e]
  obtain ⟨r, _, hr⟩ := List.mem_map.mp hm
  cases hr
  rfl
abbrev rUps : Rdr (List (Str × List Str)) := rDic (rLst rStr)
abbrev rPts : Rdr (List (List Str)) := rLst rPt
section
variable {P : Program} {w : World} {K : PySem.W.Frag} {mg : Str → Option Value} {base : Heap}
structure UnI where
  (rows : Rows Str) (m : Nat) (p q : List Str) (good : Good rows) (hp : Pt (nms rows) m p) (hq : Pt (nms rows) m q) (hm : m ≤ 3)
abbrev sp__law_is_under : Sp := spOf (fun (i : UnI) => a3 rUps rPt rPt (upsOf i.rows) i.p i.q) fun i => is rBool (pLe (leOf i.rows) i.p i.q)
theorem ok__law_is_under (T : Txt K mg) : GFn P w K mg base "_law_is_under" 1 sp__law_is_under := by
  obtain ⟨fd, F⟩ := T.d__law_is_under
  have sc := (C8.fnScope_by (N := ["_law_ups_here", "_law_inner", "_law_outer", "_law_low", "_law_high"]) (P := ["_law_ups_here", "_law_inner", "_law_outer"]) (sc := defScope st__law_is_under) (by kernel_rfl))
  refine gfn T.g__law_is_under F sc (F.bindsN fun _ _ _ _ _ _ us hl => match us, hl with | [_, _, _], _ => rfl) (fun i vs H ⟨_, _, _, e, _⟩ => by rw [e]; rfl) ?_
  intro cdv A outer s H E i vs Q hr ⟨v1, v2, v3, e, r1, r2, r3⟩ hq
  have nd := sc.nd
  have hu := u1 hr
  subst e
  refine ⟨_, (PSs.nox (pss_one (ps_ret (pe_callB (k_all K) (by rfl) T.all (by decide +kernel) (pa_cons (pe_lc (own := [("_law_low", 3), ("_law_high", 4)]) (by rfl) nd (k_zip K T.zip (pa_cons (pv 1) (pa_cons (pv 2) pa_nil))) (blkOk_by (by kernel_rfl)) (fun _ _ _ _ _ => (k_gtup K (n := 2) (pgs_cons (pg_name (i := 3) nd (by rfl) (by first | exact Or.inl rfl | exact Or.inr rfl)) (pgs_cons (pg_name (i := 4) nd (by rfl) (by first | exact Or.inl rfl | exact Or.inr rfl)) pgs_nil)))) (fun _ _ _ _ _ => pts_nil) (fun _ _ _ _ _ => (pe_cmpR (k_in K) (pv 4) (pe_dget hu (pv 0) (pv 3) (by intro _ _; rfl)) (by rfl)))) pa_nil))))), ?_⟩
  refine r_ret (Ev.b (all_map (lcD (R := rPair rStr rStr) (xs := i.p.zip i.q) (fun _ => true) (fun z => leOf i.rows z.1 z.2) (gm_tup (gm_cons gm_name (gm_cons gm_name gm_nil))) (i_zip (ea2 (var rfl r2) (var rfl r3)))
    (by have := i.hp.1; have := i.hm; have := List.length_zip (l₁ := i.p) (l₂ := i.q); omega) ?_))) hq
  rintro j ⟨x, y⟩ v H1 hx e ⟨a, x1, y1, rfl, ha, rx, ry⟩
  refine ⟨a, _, rfl, .inl (.inl ha), rfl, x1, _, rfl, y1, _, rfl, rfl, Ex.refl _, rfl, et_yes, fun _ => ?_⟩
  have hz := List.of_mem_zip (List.mem_of_getElem? hx)
  exact Ev.flat (inL (var rfl ry) (getS (var rfl (up e r1)) (var rfl rx) (at_ups (i.hp.2 x hz.1))))
theorem under_ {σ : L2.St} {H : Hp} {ta tb tc : TE} {rows : Rows Str} {m : Nat} {p q : List Str} (good : Good rows) (hp : Pt (nms rows) m p) (hq : Pt (nms rows) m q) (hm : m ≤ 3) (h1 : EvP ta σ H (is rUps (upsOf rows))) (h2 : EvP tb σ H (is rPt p)) (h3 : EvP tc σ H (is rPt q)) :
    Ev (tCall sp__law_is_under [] E0 (tCons ta (tCons tb (tCons tc tNil)))) σ H (.bl (pLe (leOf rows) p q)) := bool_ (call_ (P := fun (i : UnI) => is rBool (pLe (leOf i.rows) i.p i.q)) ⟨rows, m, p, q, good, hp, hq, hm⟩ (ea3 h1 h2 h3))
structure LoI where
  (rows : Rows Str) (m : Nat) (ps : List (List Str)) (good : Good rows) (hp : ∀ p ∈ ps, Pt (nms rows) m p) (hm : m ≤ 3) (hl : ps.length ≤ 10000)
abbrev sp__law_lowest : Sp := spOf (fun (i : LoI) => a2 rUps rPts (upsOf i.rows) i.ps) fun i => nw rPts (lows (leOf i.rows) i.ps)
abbrev sp__law_highest : Sp := spOf (fun (i : LoI) => a2 rUps rPts (upsOf i.rows) i.ps) fun i => nw rPts (highs (leOf i.rows) i.ps)
theorem ok__law_lowest (T : Txt K mg) (G__law_is_under : GFn P w K mg base "_law_is_under" 1 sp__law_is_under) : GFn P w K mg base "_law_lowest" 2 sp__law_lowest := by
  obtain ⟨fd, F⟩ := T.d__law_lowest
  have sc := (C8.fnScope_by (N := ["_law_ups_here", "_law_spots", "_law_one", "_law_other"]) (P := ["_law_ups_here", "_law_spots"]) (sc := defScope st__law_lowest) (by kernel_rfl))
  refine gfn T.g__law_lowest F sc (F.bindsN fun _ _ _ _ _ _ us hl => match us, hl with | [_, _], _ => rfl) (fun i vs H ⟨_, _, e, _⟩ => by rw [e]; rfl) ?_
  intro cdv A outer s H E i vs Q hr ⟨v1, v2, e, r1, r2⟩ hq
  have nd := sc.nd
  have hu64 := u64 hr
  subst e
  refine ⟨_, (PSs.nox (pss_one (ps_ret (pe_lc (own := [("_law_one", 2)]) (by rfl) nd (k_pil K (pv 1)) (blkOk_by (by kernel_rfl)) (fun _ _ _ _ _ => (pg_name (i := 2) nd (by rfl) (by first | exact Or.inl rfl | exact Or.inr rfl))) (fun _ _ _ _ _ => (pts_one (pt_not (pt_val (pe_callB (k_any K) (by rfl) T.any (by decide +kernel) (pa_cons (pe_lc (own := [("_law_other", 3)]) (by rfl) nd (k_pil K (pv 1)) (blkOk_by (by kernel_rfl)) (fun _ _ _ _ _ => (pg_name (i := 3) nd (by rfl) (by first | exact Or.inl rfl | exact Or.inr rfl))) (fun _ _ _ _ _ => pts_nil) (fun _ _ _ _ _ => (pe_and (pe_cmpR (k_neD K hu64) (pv 3) (pv 2) (nomark _)) (pe_one (kcall G__law_is_under hr (pa_cons (pv 0) (pa_cons (pv 3) (pa_cons (pv 2) pa_nil)))))))) pa_nil)))))) (fun _ _ _ _ _ => (pv 2)))))), ?_⟩
  have hl := i.hl
  refine r_ret (lcF (R := rPt) (R' := rPt) (xs := i.ps) (fun a => !i.ps.any fun b => !decide (b = a) && pLe (leOf i.rows) b a) gm_name (i_list (var rfl r2)) (by omega) ?_) hq
  intro j x v H1 hx e rx
  refine ⟨Ex.refl _, rfl, Evl.et_not (Evl.et_B (any_map (lcD (R := rPt) (xs := i.ps) (fun _ => true) (fun b => !decide (b = x) && pLe (leOf i.rows) b x) gm_name (i_list (var rfl (up e r2))) (by omega) ?_))), fun _ => (var rfl rx).flatI⟩
  intro j2 y v2 H2 hy e2 ry
  refine ⟨Ex.refl _, rfl, et_yes, fun _ => Ev.flat (Evl.ev_andV (neD (by decide) (var rfl ry) (var rfl (up e2 rx))) fun _ => ?_)⟩
  exact under_ i.good (i.hp y (List.mem_of_getElem? hy)) (i.hp x (List.mem_of_getElem? hx)) i.hm (var rfl (up (e.trans e2) r1)) (var rfl ry) (var rfl (up e2 rx))
theorem ok__law_highest (T : Txt K mg) (G__law_is_under : GFn P w K mg base "_law_is_under" 1 sp__law_is_under) : GFn P w K mg base "_law_highest" 2 sp__law_highest := by
  obtain ⟨fd, F⟩ := T.d__law_highest
  have sc := (C8.fnScope_by (N := ["_law_ups_here", "_law_spots", "_law_one", "_law_other"]) (P := ["_law_ups_here", "_law_spots"]) (sc := defScope st__law_highest) (by kernel_rfl))
  refine gfn T.g__law_highest F sc (F.bindsN fun _ _ _ _ _ _ us hl => match us, hl with | [_, _], _ => rfl) (fun i vs H ⟨_, _, e, _⟩ => by rw [e]; rfl) ?_
  intro cdv A outer s H E i vs Q hr ⟨v1, v2, e, r1, r2⟩ hq
  have nd := sc.nd
  have hu64 := u64 hr
  subst e
  refine ⟨_, (PSs.nox (pss_one (ps_ret (pe_lc (own := [("_law_one", 2)]) (by rfl) nd (k_pil K (pv 1)) (blkOk_by (by kernel_rfl)) (fun _ _ _ _ _ => (pg_name (i := 2) nd (by rfl) (by first | exact Or.inl rfl | exact Or.inr rfl))) (fun _ _ _ _ _ => (pts_one (pt_not (pt_val (pe_callB (k_any K) (by rfl) T.any (by decide +kernel) (pa_cons (pe_lc (own := [("_law_other", 3)]) (by rfl) nd (k_pil K (pv 1)) (blkOk_by (by kernel_rfl)) (fun _ _ _ _ _ => (pg_name (i := 3) nd (by rfl) (by first | exact Or.inl rfl | exact Or.inr rfl))) (fun _ _ _ _ _ => pts_nil) (fun _ _ _ _ _ => (pe_and (pe_cmpR (k_neD K hu64) (pv 3) (pv 2) (nomark _)) (pe_one (kcall G__law_is_under hr (pa_cons (pv 0) (pa_cons (pv 2) (pa_cons (pv 3) pa_nil)))))))) pa_nil)))))) (fun _ _ _ _ _ => (pv 2)))))), ?_⟩
  have hl := i.hl
  refine r_ret (lcF (R := rPt) (R' := rPt) (xs := i.ps) (fun a => !i.ps.any fun b => !decide (b = a) && pLe (leOf i.rows) a b) gm_name (i_list (var rfl r2)) (by omega) ?_) hq
  intro j x v H1 hx e rx
  refine ⟨Ex.refl _, rfl, Evl.et_not (Evl.et_B (any_map (lcD (R := rPt) (xs := i.ps) (fun _ => true) (fun b => !decide (b = x) && pLe (leOf i.rows) x b) gm_name (i_list (var rfl (up e r2))) (by omega) ?_))), fun _ => (var rfl rx).flatI⟩
  intro j2 y v2 H2 hy e2 ry
  refine ⟨Ex.refl _, rfl, et_yes, fun _ => Ev.flat (Evl.ev_andV (neD (by decide) (var rfl ry) (var rfl (up e2 rx))) fun _ => ?_)⟩
  exact under_ i.good (i.hp x (List.mem_of_getElem? hx)) (i.hp y (List.mem_of_getElem? hy)) i.hm (var rfl (up (e.trans e2) r1)) (var rfl (up e2 rx)) (var rfl ry)
abbrev kys (m : List (List Str × List (List Str))) : List (List Str) := m.map (·.1)
abbrev rMade : Rdr (List (List Str × List (List Str))) := rDitU rBody
structure NrI where
  (rows : Rows Str) (m : Nat) (made : List (List Str × List (List Str))) (s : List Str) (good : Good rows) (hp : ∀ p ∈ kys made, Pt (nms rows) m p) (hs : Pt (nms rows) m s) (hm : m ≤ 3) (hl : made.length ≤ 10000)
abbrev sp__law_near : Sp := spOf (fun (i : NrI) => a3 rUps rMade rPt (upsOf i.rows) i.made i.s) fun i => nw rPts (near (leOf i.rows) (kys i.made) i.s)
abbrev sp__law_rivals : Sp := spOf (fun (i : NrI) => a3 rUps rMade rPt (upsOf i.rows) i.made i.s) fun i => nw rPts (rivals (leOf i.rows) (kys i.made) i.s)
theorem ok__law_near (T : Txt K mg) (G__law_is_under : GFn P w K mg base "_law_is_under" 1 sp__law_is_under) (G__law_lowest : GFn P w K mg base "_law_lowest" 2 sp__law_lowest) : GFn P w K mg base "_law_near" 3 sp__law_near := by
  obtain ⟨fd, F⟩ := T.d__law_near
  have sc := (C8.fnScope_by (N := ["_law_ups_here", "_law_made", "_law_spot", "_law_one"]) (P := ["_law_ups_here", "_law_made", "_law_spot"]) (sc := defScope st__law_near) (by kernel_rfl))
  refine gfn T.g__law_near F sc (F.bindsN fun _ _ _ _ _ _ us hl => match us, hl with | [_, _, _], _ => rfl) (fun i vs H ⟨_, _, _, e, _⟩ => by rw [e]; rfl) ?_
  intro cdv A outer s H E i vs Q hr ⟨v1, v2, v3, e, r1, ⟨d, kvs, e2, hd, r2⟩, r3⟩ hq
  have nd := sc.nd
  have hu64 := u64 hr
  subst e e2
  refine ⟨_, (PSs.nox (pss_one (ps_ret (kcall G__law_lowest hr (pa_cons (pv 0) (pa_cons (pe_lock (pe_lc (own := [("_law_one", 3)]) (by rfl) nd (pi_keys (pv 1)) (blkOk_by (by kernel_rfl)) (fun _ _ _ _ _ => (pg_name (i := 3) nd (by rfl) (by first | exact Or.inl rfl | exact Or.inr rfl))) (fun _ _ _ _ _ => (pts_one (PW.pt (pw_and (pt_cmpR (k_neD K hu64) (pv 3) (pv 2) (nomark _)) (pw_and1 (pt_val (kcall G__law_is_under hr (pa_cons (pv 0) (pa_cons (pv 2) (pa_cons (pv 3) pa_nil)))))))))) (fun _ _ _ _ _ => (pv 3)))) pa_nil)))))), ?_⟩
  have hl := i.hl
  have hk : (kys i.made).length ≤ 10000 := by rw [List.length_map]; exact hl
  refine r_ret (call_ (P := fun (i : LoI) => nw rPts (lows (leOf i.rows) i.ps)) ⟨i.rows, i.m, (kys i.made).filter fun one => !decide (one = i.s) && pLe (leOf i.rows) i.s one, i.good, fun p h => i.hp p (List.mem_filter.mp h).1, i.hm, Nat.le_trans (List.length_filter_le _ _) hk⟩ (ea2 (var rfl r1) (EvP.of_nw (lockE hd fun od => ?_)))) hq
  have w1 := Exw.lock (od := od) hd trivial
  refine lcF (R := rPt) (R' := rPt) (xs := kys i.made) (fun one => !decide (one = i.s) && pLe (leOf i.rows) i.s one) gm_name (i_keysT' (Evl.ev_var rfl) upd_same (pmap r2 fun _ _ h => ⟨h.1, upW w1 h.2⟩)) (by omega) ?_
  intro j x v H1 hx e rx
  refine ⟨Ex.refl _, rfl, Evl.et_and (Evl.et_test (neD (by decide) (var rfl rx) (var rfl (up e (upW w1 r3))))) fun _ => Evl.et_B ?_, fun _ => (var rfl rx).flatI⟩
  exact under_ i.good i.hs (i.hp x (List.mem_of_getElem? hx)) i.hm (var rfl (up e (upW w1 r1))) (var rfl (up e (upW w1 r3))) (var rfl rx)
theorem ok__law_rivals (T : Txt K mg) (G__law_is_under : GFn P w K mg base "_law_is_under" 1 sp__law_is_under) (G__law_lowest : GFn P w K mg base "_law_lowest" 2 sp__law_lowest) : GFn P w K mg base "_law_rivals" 3 sp__law_rivals := by
  obtain ⟨fd, F⟩ := T.d__law_rivals
  have sc := (C8.fnScope_by (N := ["_law_ups_here", "_law_made", "_law_spot", "_law_one"]) (P := ["_law_ups_here", "_law_made", "_law_spot"]) (sc := defScope st__law_rivals) (by kernel_rfl))
  refine gfn T.g__law_rivals F sc (F.bindsN fun _ _ _ _ _ _ us hl => match us, hl with | [_, _, _], _ => rfl) (fun i vs H ⟨_, _, _, e, _⟩ => by rw [e]; rfl) ?_
  intro cdv A outer s H E i vs Q hr ⟨v1, v2, v3, e, r1, ⟨d, kvs, e2, hd, r2⟩, r3⟩ hq
  have nd := sc.nd
  subst e e2
  refine ⟨_, (PSs.nox (pss_one (ps_ret (kcall G__law_lowest hr (pa_cons (pv 0) (pa_cons (pe_lock (pe_lc (own := [("_law_one", 3)]) (by rfl) nd (pi_keys (pv 1)) (blkOk_by (by kernel_rfl)) (fun _ _ _ _ _ => (pg_name (i := 3) nd (by rfl) (by first | exact Or.inl rfl | exact Or.inr rfl))) (fun _ _ _ _ _ => (pts_one (pt_val (kcall G__law_is_under hr (pa_cons (pv 0) (pa_cons (pv 2) (pa_cons (pv 3) pa_nil))))))) (fun _ _ _ _ _ => (pv 3)))) pa_nil)))))), ?_⟩
  have hl := i.hl
  have hk : (kys i.made).length ≤ 10000 := by rw [List.length_map]; exact hl
  refine r_ret (call_ (P := fun (i : LoI) => nw rPts (lows (leOf i.rows) i.ps)) ⟨i.rows, i.m, (kys i.made).filter fun one => pLe (leOf i.rows) i.s one, i.good, fun p h => i.hp p (List.mem_filter.mp h).1, i.hm, Nat.le_trans (List.length_filter_le _ _) hk⟩ (ea2 (var rfl r1) (EvP.of_nw (lockE hd fun od => ?_)))) hq
  have w1 := Exw.lock (od := od) hd trivial
  refine lcF (R := rPt) (R' := rPt) (xs := kys i.made) (fun one => pLe (leOf i.rows) i.s one) gm_name (i_keysT' (Evl.ev_var rfl) upd_same (pmap r2 fun _ _ h => ⟨h.1, upW w1 h.2⟩)) (by omega) ?_
  intro j x v H1 hx e rx
  exact ⟨Ex.refl _, rfl, Evl.et_B (under_ i.good i.hs (i.hp x (List.mem_of_getElem? hx)) i.hm (var rfl (up e (upW w1 r1))) (var rfl (up e (upW w1 r3))) (var rfl rx)), fun _ => (var rfl rx).flatI⟩
abbrev sp__law_is_one : Sp := spOf (fun (vs : {l : List (List (List Str)) // l.length ≤ 1000}) => a1 (rLst rBody) vs.1) fun vs => is rBool (isOne vs.1)
theorem ok__law_is_one (T : Txt K mg) : GFn P w K mg base "_law_is_one" 1 sp__law_is_one := by
  obtain ⟨fd, F⟩ := T.d__law_is_one
  have sc := (C8.fnScope_by (N := ["_law_values", "_law_each"]) (P := ["_law_values"]) (sc := defScope st__law_is_one) (by kernel_rfl))
  refine gfn T.g__law_is_one F sc (F.bindsN fun _ _ _ _ _ _ us hl => match us, hl with | [_], _ => rfl) (fun i vs H ⟨_, e, _⟩ => by rw [e]; rfl) ?_
  rintro cdv A outer s H E ⟨xs, hl⟩ vs Q hr ⟨v1, e, r1⟩ hq
  have nd := sc.nd
  have hu64 := u64 hr
  subst e
  refine ⟨_, (PSs.nox (pss_one (ps_ret (pe_and (pe_cmpR (k_neD K hu64) (pv 0) (pe_lst pa_nil) (nomark _)) (pe_one (pe_callB (k_all K) (by rfl) T.all (by decide +kernel) (pa_cons (pe_lc (own := [("_law_each", 1)]) (by rfl) nd (k_pil K (pv 0)) (blkOk_by (by kernel_rfl)) (fun _ _ _ _ _ => (pg_name (i := 1) nd (by rfl) (by first | exact Or.inl rfl | exact Or.inr rfl))) (fun _ _ _ _ _ => pts_nil) (fun _ _ _ _ _ => (pe_cmpR (k_eqD K hu64) (pv 1) (pe_ix (k_ixL K) (pv 0) pe_int (by intro _ _; rfl)) (nomark _)))) pa_nil))))))), ?_⟩
  have hl : xs.length ≤ 1000 := hl
  have e : isOne xs = (!decide (xs = []) && xs.all fun x => decide (x = xs.headD [])) := by
    cases xs <;> rfl
  refine r_ret (P := is rBool (isOne xs)) ?_ hq
  rw [e]
  refine Ev.b (Evl.ev_andV (neD (by decide) (var rfl r1) (EvP.of_nw (lst_ pa0 (by decide)))) fun hne => all_map (lcD (R := rBody) (fun _ => true) (fun x => decide (x = xs.headD [])) gm_name (i_list (var rfl r1)) (by omega) ?_))
  intro j x v H1 hx e rx
  refine ⟨Ex.refl _, rfl, et_yes, fun _ => Ev.flat (eqD (by decide) (var rfl rx) (ixL (j := 0) (var rfl (up e r1)) Evl.ev_c ?_))⟩
  cases xs with
  | nil => simp at hne
  | cons y ys => rfl
theorem isone_ {σ : L2.St} {H : Hp} {ta : TE} {vs : List (List (List Str))} (hl : vs.length ≤ 1000) (h : EvP ta σ H (is (rLst rBody) vs)) : Ev (tCall sp__law_is_one [] E0 (tCons ta tNil)) σ H (.bl (isOne vs)) :=
  bool_ (call_ (P := fun (vs : {l : List (List (List Str)) // l.length ≤ 1000}) => is rBool (isOne vs.1)) ⟨vs, hl⟩ (ea1 (R := rLst rBody) h))
end
end FM

/-! ## FLaw2 -/
set_option Elab.async false
set_option linter.all false
set_option maxRecDepth 100000
set_option maxHeartbeats 2000000
/-! The law's own defs over rows, and its expansions. -/
namespace FM
open PySem PySem.Spec PyProof.Rows L2
open Evl (Ex EvT Ev)
abbrev rRows : Rdr (Rows Str) := rLst (rPair rStr rPt)
/-- rows of a hierarchy, not many -/
structure Rok (rows : Rows Str) : Prop where
  good : Good rows
  len : rows.length ≤ 20
  sup : ∀ r ∈ rows, r.2.length ≤ 20
theorem fold_take {α β : Type} {xs : List α} {f : β → α → β} {a : β} {i : Nat} {x : α} (h : xs[i]? = some x) : (xs.take (i + 1)).foldl f a = f ((xs.take i).foldl f a) x := by
  rw [List.take_add_one, h, List.foldl_append]
  rfl
theorem up_len {l : Rows Str} (h : ∀ r ∈ l, r.2.length ≤ 20) : ∀ (F : List Str), (l.foldl upStep F).length ≤ F.length + 20 * l.length := by
  induction l with
  | nil => intro F; simp
  | cons r l ih =>
    intro F
    rw [List.foldl_cons]
    have h1 := ih (fun q hq => h q (by simp [hq])) (upStep F r)
    have h2 : (upStep F r).length ≤ F.length + 20 := by
      unfold upStep
      split
      · rw [List.length_append]
        have := List.length_filter_le (fun s => !isIn s F) r.2
        have := h r (by simp)
        omega
      · omega
    rw [List.length_cons]
    omega
theorem upStep_yes {F : List Str} {r : Str × List Str} (h : isIn r.1 F = true) : upStep F r = F ++ r.2.filter (fun s => !isIn s F) := by
  unfold upStep
  rw [if_pos h]
theorem upStep_no {F : List Str} {r : Str × List Str} (h : isIn r.1 F = false) : upStep F r = F := by
  unfold upStep
  rw [if_neg (by rw [h]; decide)]
section
variable {P : Program} {w : World} {K : PySem.W.Frag} {mg : Str → Option Value} {base : Heap}
structure AbI where
  (rows : Rows Str) (x : Str) (ok : Rok rows)
abbrev sp__law_above : Sp := spOf (fun (i : AbI) => a2 rRows rStr i.rows i.x) fun i => nw (rLst rStr) (upAll i.rows [i.x])
theorem ok__law_above (T : Txt K mg) : GFn P w K mg base "_law_above" 1 sp__law_above := by
  obtain ⟨fd, F⟩ := T.d__law_above
  have sc := (C8.fnScope_by (N := ["_law_rows", "_law_label", "_law_found", "_law_one", "_law_superclasses", "_law_each"]) (P := ["_law_rows", "_law_label"]) (sc := defScope st__law_above) (by kernel_rfl))
  refine gfn T.g__law_above F sc (F.bindsN fun _ _ _ _ _ _ us hl => match us, hl with | [_, _], _ => rfl) (fun i vs H ⟨_, _, e, _⟩ => by rw [e]; rfl) ?_
  intro cdv A outer s H E i vs Q hr ⟨v1, v2, e, r1, r2⟩ hq
  have nd := sc.nd
  have hu := u1 hr
  subst e
  refine ⟨_, (PSs.nox (pss_cons (ps_set (i := 2) nd (by rfl) (by first | exact Or.inl rfl | exact Or.inr rfl) (pe_lst (pa_cons (pv 1) pa_nil)))
      (pss_cons (ps_for PassesOwn.never (by rfl) (k_pil K (k_rev K (pv 0))) (k_gtup K (n := 2) (pgs_cons (pg_name (i := 3) nd (by rfl) (by first | exact Or.inl rfl | exact Or.inr rfl)) (pgs_cons (pg_name (i := 4) nd (by rfl) (by first | exact Or.inl rfl | exact Or.inr rfl)) pgs_nil))) (pss_one (ps_if (pt_cmpR (k_in K) (pv 3) (pv 2) (by rfl)) (pss_one (ps_expr (k_bm K PySem.F.plainAttrs_list PySem.F.slot_list_extend PySem.F.type_list_extend mt_extend (pv 2) (pa_cons (pe_lc (own := [("_law_each", 5)]) (by rfl) nd (k_pit K (pv 4)) (blkOk_by (by kernel_rfl)) (fun _ _ _ _ _ => (pg_name (i := 5) nd (by rfl) (by first | exact Or.inl rfl | exact Or.inr rfl))) (fun _ _ _ _ _ => (pts_one (pt_cmpR (k_notIn K) (pv 5) (pv 2) (by rfl)))) (fun _ _ _ _ _ => (pv 5))) pa_nil)))) pss_nil)))
      (pss_one (ps_ret (pv 2)))))), ?_⟩
  refine r_set (lst_ (pa1 (var rfl r2) pa0) (by simp)) fun v H1 e1 ⟨L, ev, hn, b, vs0, eb, hL, rL⟩ => ?_
  subst ev
  cases eb
  have hlen : i.rows.reverse.length ≤ 20 := by rw [List.length_reverse]; exact i.ok.len
  have hbound : ∀ j, ((i.rows.reverse.take j).foldl upStep [i.x]).length ≤ 1000 := fun j => by
    have h1 := up_len (l := i.rows.reverse.take j) (fun r hr => i.ok.sup r (List.mem_reverse.mp (List.mem_of_mem_take hr))) [i.x]
    have h2 : (i.rows.reverse.take j).length ≤ 20 := Nat.le_trans (List.length_take_le' _ _) hlen
    simp only [List.length_cons, List.length_nil] at h1
    omega
  refine sq (r_for (H := H) (j_new (R := rPair rStr rPt) (revL (var rfl r1))) e1
    (fun j σ' H' => (∃ u w' z, σ' = [some v1, some v2, some (V.ref L), u, w', z]) ∧ ∃ us, H' L = some (.lst us) ∧ Paired (rStr H') us ((i.rows.reverse.take j).foldl upStep [i.x]))
    (fun H2 e2 => ⟨⟨_, _, _, rfl⟩, vs0, e2 L _ hL, rL⟩) (fun Hn en hno j σ' H' hj hI eh v H3 e3 hy => ?_) fun σ' H' hI eh => ?_)
  · obtain ⟨⟨u, w', z, rfl⟩, us, hus, ru⟩ := hI
    obtain ⟨⟨x1, sup⟩, hx, a, y1, y2, rfl, ha, ry1, ry2⟩ := hy
    refine ⟨a, _, rfl, .inl (.inl ha), rfl, y1, _, rfl, y2, _, rfl, rfl, ?_⟩
    have hL3 : H3 L = some (.lst us) := e3 L _ hus
    have hHn : Hn L = none := hno L _ hn hL rfl
    refine Evl.s_if (Evl.et_test (inL (var rfl ry1) (var rfl (show rLst rStr H3 (.ref L) _ from ⟨L, us, rfl, hL3, ru⟩)))) (fun hb H4 e4 => ?_) fun hb H4 e4 => ?_
    · refine r_extend (R := rStr) (xs := sup.filter fun q => !isIn q ((i.rows.reverse.take j).foldl upStep [i.x])) (e4 L _ hL3) (Evl.ev_var rfl) (EvP.of_nw (lcF (R := rStr) _ gm_name (i_tup (var rfl (rTup.r (up e4 ry2)))) ?_ ?_)) ?_ fun ws H5 e5 pw => ?_
      · have := i.ok.sup (x1, sup) (List.mem_reverse.mp (List.mem_of_getElem? hx))
        exact Nat.le_trans this (by decide)
      · intro k q vq H6 hq e6 rq
        exact ⟨Ex.refl _, rfl, Evl.et_test (notInL (var rfl rq) (var rfl (show rLst rStr H6 (.ref L) _ from ⟨L, us, rfl, e6 L _ (e4 L _ hL3), ru⟩))), fun _ => (var rfl rq).flatI⟩
      · have h1 := hbound j
        have h2 := plen ru
        have h3 := List.length_filter_le (fun q => !isIn q ((i.rows.reverse.take j).foldl upStep [i.x])) sup
        have h4 := i.ok.sup (x1, sup) (List.mem_reverse.mp (List.mem_of_getElem? hx))
        have h4 : sup.length ≤ 20 := h4
        omega
      · refine ⟨⟨⟨_, _, _, rfl⟩, us ++ ws, upd_same, ?_⟩, Ex.mut (((eh.trans e3).trans e4).trans e5) hHn⟩
        rw [fold_take hx]
        rw [upStep_yes hb]
        exact papp ru pw
    · refine ⟨⟨⟨_, _, _, rfl⟩, us, e4 L _ hL3, ?_⟩, (eh.trans e3).trans e4⟩
      rw [fold_take hx]
      rw [upStep_no hb]
      exact ru
  · obtain ⟨⟨u, w', z, rfl⟩, us, hus, ru⟩ := hI
    rw [List.take_length] at ru
    exact r_retV (Evl.ev_var rfl) fun H2 e2 => hq _ _ (eh.trans e2) ⟨L, rfl, hn, L, us, rfl, e2 L _ hus, ru⟩
abbrev sp__law_ups : Sp := spOf (fun (i : {rows : Rows Str // Rok rows}) => a1 rRows i.1) fun i => is rUps (upsOf i.1)
theorem rows_ok {H : Hp} {v : V} {r : Str × List Str} (h : rPair rStr rPt H v r) : sOk r.1 := let ⟨_, _, _, _, _, h, _⟩ := h; h.2
theorem ok__law_ups (T : Txt K mg) (G__law_above : GFn P w K mg base "_law_above" 1 sp__law_above) : GFn P w K mg base "_law_ups" 2 sp__law_ups := by
  obtain ⟨fd, F⟩ := T.d__law_ups
  have sc := (C8.fnScope_by (N := ["_law_rows", "_law_row"]) (P := ["_law_rows"]) (sc := defScope st__law_ups) (by kernel_rfl))
  refine gfn T.g__law_ups F sc (F.bindsN fun _ _ _ _ _ _ us hl => match us, hl with | [_], _ => rfl) (fun i vs H ⟨_, e, _⟩ => by rw [e]; rfl) ?_
  intro cdv A outer s H E ⟨rows, ok⟩ vs Q hr ⟨v1, e, r1⟩ hq
  have nd := sc.nd
  subst e
  refine ⟨_, (PSs.nox (pss_one (ps_ret (pe_callTy (k_dictP K) (by rfl) T.dict (by decide +kernel) (pa_cons (pe_lc (own := [("_law_row", 1)]) (by rfl) nd (k_pil K (pv 0)) (blkOk_by (by kernel_rfl)) (fun _ _ _ _ _ => (pg_name (i := 1) nd (by rfl) (by first | exact Or.inl rfl | exact Or.inr rfl))) (fun _ _ _ _ _ => pts_nil) (fun _ _ _ _ _ => (pe_tup (pa_cons (pe_ix (k_ixT K) (pv 1) pe_int (by intro _ _; rfl)) (pa_cons (kcall G__law_above hr (pa_cons (pv 0) (pa_cons (pe_ix (k_ixT K) (pv 1) pe_int (by intro _ _; rfl)) pa_nil))) pa_nil))))) pa_nil))))), ?_⟩
  refine r_ret (P := is rUps (upsOf rows)) (dictP_ ?_ (lcM (R := rPair rStr rPt) (R' := rPair rStr (rLst rStr)) (xs := rows) (fun r => (r.1, upAll rows [r.1])) gm_name (i_list (var rfl r1)) (by have := ok.len; show rows.length ≤ _; omega) ?_)) hq
  · have : (upsOf rows).map (·.1) = nms rows := by unfold upsOf nms; rw [List.map_map]; rfl
    show ((upsOf rows).map (·.1)).Nodup
    rw [this]
    exact ok.good.nodup
  · intro j r v H1 hx e rr
    refine ⟨Ex.refl _, rfl, et_yes, pairF (rows_ok rr) (strV (ixP0 (var rfl rr))) ?_⟩
    exact call_ (P := fun (i : AbI) => nw (rLst rStr) (upAll i.rows [i.x])) ⟨rows, r.1, ok⟩ (ea2 (var rfl (up e r1)) (ixP0 (var rfl rr)))
end
end FM

/-! ## FHier -/
set_option Elab.async false
set_option linter.all false
set_option maxRecDepth 100000
set_option maxHeartbeats 2000000
/-! The hierarchy: what an instance stands for, its small methods. -/
namespace FM
open PySem PySem.Spec PyProof.Rows L2
open Evl (Ex EvT Ev)
def ancs (rows : Rows Str) : List (Str × List Str) := rows.map fun r => (r.1, (nms rows).filter fun y => leOf rows r.1 y)
abbrev fsH (ds da : Addr) : List (Str × V) := [("superclasses_by_class", .ref ds), ("ancestors_by_class", .ref da)]
/-- an instance of Hierarchy that stands for these rows -/
def rH (K : PySem.W.Frag) : Rdr (Rows Str) := fun H v rows => ∃ a dx ds da, v = .ref a ∧ H a = some (.ins (He.ga K "Hierarchy") dx (fsH ds da)) ∧ rDicU rPt H (.ref ds) rows ∧ rDicU (rLst rStr) H (.ref da) (ancs rows)
instance {K : PySem.W.Frag} : MonoW (rH K) := ⟨fun e ⟨a, dx, ds, da, h1, h2, h3, h4⟩ => ⟨a, dx, ds, da, h1, e.ins h2, upW e h3, upW e h4⟩⟩
theorem rH_ob {K : PySem.W.Frag} {rows : Rows Str} {m : Str} (h : ∀ ds da, (fsH ds da).lookup m = none) : ∀ {H : Hp} {v : V}, rH K H v rows → ∃ a dx fs, v = .ref a ∧ H a = some (.ins (He.ga K "Hierarchy") dx fs) ∧ fs.lookup m = none := fun ⟨a, dx, ds, da, h1, h2, _, _⟩ => ⟨a, dx, _, h1, h2, h ds da⟩
theorem at_anc {rows : Rows Str} {x : Str} (h : x ∈ nms rows) : at? (ancs rows) x = some ((nms rows).filter fun y => leOf rows x y) := by
  have h2 : x ∈ (ancs rows).map (·.1) := by
    unfold ancs
    rw [List.map_map]
    exact h
  obtain ⟨v, e, hm⟩ := at?_some h2
  rw [e]
  obtain ⟨r, _, hr⟩ := List.mem_map.mp hm
  cases hr
  rfl
theorem anc_keys (rows : Rows Str) : (ancs rows).map (·.1) = nms rows := by
  unfold ancs nms
  rw [List.map_map]
  rfl
/-- no value -/
abbrev isNon : Hp → V → Hp → Prop := fun _ v _ => v = .non
instance : Dn isNon := ⟨fun _ h => h⟩
theorem isIn_fil {α : Type} [DecidableEq α] {l : List α} {f : α → Bool} {x : α} (h : x ∈ l) : isIn x (l.filter f) = f x := by
  cases q : f x with
  | true => exact isIn_iff.mpr (List.mem_filter.mpr ⟨h, q⟩)
  | false => exact isIn_not.mpr fun z => by rw [(List.mem_filter.mp z).2] at q; cases q
section
variable {P : Program} {w : World} {K : PySem.W.Frag} {mg : Str → Option Value} {base : Heap}
/-- arguments of a method: the instance, then more -/
theorem m1 {β γ : Type} {R : Rdr β} {S : Rdr γ} {x : β} {y : γ} : ∀ v vs H2, R H2 v x → a1 S y vs H2 → a2 R S x y (v :: vs) H2 := fun v vs H2 r ⟨u, e, r2⟩ => ⟨v, u, by rw [e], r, r2⟩
theorem m2 {β γ δ : Type} {R : Rdr β} {S : Rdr γ} {T : Rdr δ} {x : β} {y : γ} {z : δ} : ∀ v vs H2, R H2 v x → a2 S T y z vs H2 → a3 R S T x y z (v :: vs) H2 := fun v vs H2 r ⟨u, u2, e, r2, r3⟩ => ⟨v, u, u2, by rw [e], r, r2, r3⟩
theorem m0 {β : Type} {R : Rdr β} {x : β} : ∀ v vs H2, R H2 v x → vs = [] → a1 R x (v :: vs) H2 := fun v vs H2 r e => ⟨v, by rw [e], r⟩
abbrev sp_has : Sp := spOf (fun (i : Rows Str × Str) => a2 (rH K) rStr i.1 i.2) fun i => is rBool (isIn i.2 (nms i.1))
abbrev HasI := {i : Rows Str × Str // i.2 ∈ nms i.1}
abbrev sp_req : Sp := spOf (fun (i : HasI) => a2 (rH K) rStr i.1.1 i.1.2) fun _ => isNon
abbrev sp_names : Sp := spOf (fun (i : Rows Str) => a1 (rH K) i) fun i => nw (rLst rStr) (nms i)
abbrev sp_pos : Sp := spOf (fun (i : HasI) => a2 (rH K) rStr i.1.1 i.1.2) fun i => is rInt ((nms i.1.1).idxOf i.1.2 : Int)
abbrev BelI := {i : Rows Str × Str × Str // i.2.1 ∈ nms i.1 ∧ i.2.2 ∈ nms i.1}
abbrev sp_below : Sp := spOf (fun (i : BelI) => a3 (rH K) rStr rStr i.1.1 i.1.2.1 i.1.2.2) fun i => is rBool (leOf i.1.1 i.1.2.1 i.1.2.2)
abbrev DesI := {i : Rows Str × Str // i.2 ∈ nms i.1 ∧ i.1.length ≤ 20}
abbrev sp_desc : Sp := spOf (fun (i : DesI) => a2 (rH K) rStr i.1.1 i.1.2) fun i => nw (rLst rStr) ((nms i.1.1).filter fun x => leOf i.1.1 x i.1.2)
theorem ok_Hierarchy_has_class (T : Txt K mg) : GMt P w K mg base "Hierarchy" "has_class" 1 (sp_has (K := K)) := by
  obtain ⟨fd, F⟩ := T.d_Hierarchy_has_class
  have sc := (C8.fnScope_by (N := ["self", "value"]) (P := ["self", "value"]) (sc := defScope st_Hierarchy_has_class) (by kernel_rfl))
  refine gmt T.cls_Hierarchy T.m_Hierarchy_has_class F sc (F.bindsN fun _ _ _ _ _ _ us hl => match us, hl with | [_, _], _ => rfl) (fun i vs H ⟨_, _, e, _⟩ => by rw [e]; rfl) ?_
  intro cdv A outer s H E ⟨rows, x⟩ vs Q hr ⟨v1, v2, e, ⟨a, dx, ds, da, ea, ha, r1, _⟩, r2⟩ hq
  have nd := sc.nd
  have hu := u1 hr
  subst e ea
  refine ⟨_, (PSs.nox (pss_one (ps_ret (pe_and (pe_callB (k_isi K) (by rfl) T.isinstance (by decide +kernel) (pa_cons (pv 1) (pa_cons (pe_bltn (v := .ty "str") (by rfl) T.str (by decide +kernel) rfl) pa_nil))) (pe_one (pe_cmp (pc_din hu (pv 1) (k_fld K (pv 0))))))))), ?_⟩
  refine r_ret (P := is rBool (isIn x (nms rows))) (Ev.b ?_) hq
  exact Evl.ev_andV (a := true) (isi_s (strV (var rfl r2))) fun _ => inS (var rfl r2) (ev_is (fld (Evl.ev_var rfl) ha T.cls_Hierarchy T.no_superclasses_by_class rfl) (rDicU.rd r1))
theorem ok_Hierarchy_require_class (T : Txt K mg) (G_Hierarchy_has_class : GMt P w K mg base "Hierarchy" "has_class" 1 (sp_has (K := K))) : GMt P w K mg base "Hierarchy" "require_class" 2 (sp_req (K := K)) := by
  obtain ⟨fd, F⟩ := T.d_Hierarchy_require_class
  have sc := (C8.fnScope_by (N := ["self", "value"]) (P := ["self", "value"]) (sc := defScope st_Hierarchy_require_class) (by kernel_rfl))
  refine gmt T.cls_Hierarchy T.m_Hierarchy_require_class F sc (F.bindsN fun _ _ _ _ _ _ us hl => match us, hl with | [_, _], _ => rfl) (fun i vs H ⟨_, _, e, _⟩ => by rw [e]; rfl) ?_
  intro cdv A outer s H E ⟨⟨rows, x⟩, hx⟩ vs Q hr ⟨v1, v2, e, r1, r2⟩ hq
  have nd := sc.nd
  subst e
  refine ⟨_, (PSs.nox (pss_one (ps_if (pt_not (pt_val (kmeth G_Hierarchy_has_class hr (pv 0) (pa_cons (pv 1) pa_nil)))) (pss_one ps_never) pss_nil))), ?_⟩
  refine r_notL (Evl.et_is (Evl.et_not (Evl.et_B (bool_ (mcall_ (P := fun (i : Rows Str × Str) => is rBool (isIn i.2 (nms i.1))) (R := rH K) (rows, x) (var rfl r1) (rH_ob fun _ _ => rfl) (ea1 (var (R := rStr) rfl r2)) m1)))) ?_) fun H1 e1 => hq _ _ e1 rfl
  rw [isIn_iff.mpr hx]
  rfl
theorem ok_Hierarchy_names (T : Txt K mg) : GMt P w K mg base "Hierarchy" "names" 1 (sp_names (K := K)) := by
  obtain ⟨fd, F⟩ := T.d_Hierarchy_names
  have sc := (C8.fnScope_by (N := ["self"]) (P := ["self"]) (sc := defScope st_Hierarchy_names) (by kernel_rfl))
  refine gmt T.cls_Hierarchy T.m_Hierarchy_names F sc (F.bindsN fun _ _ _ _ _ _ us hl => match us, hl with | [_], _ => rfl) (fun i vs H ⟨_, e, _⟩ => by rw [e]; rfl) ?_
  intro cdv A outer s H E rows vs Q hr ⟨v1, e, ⟨a, dx, ds, da, ea, ha, r1, _⟩⟩ hq
  have nd := sc.nd
  subst e ea
  refine ⟨_, (PSs.nox (pss_one (ps_ret (pe_callTy k_list_dK (by rfl) T.list (by decide +kernel) (pa_cons (k_fld K (pv 0)) pa_nil))))), ?_⟩
  exact r_ret (list_dK (R := rPt) (ev_is (fld (Evl.ev_var rfl) ha T.cls_Hierarchy T.no_superclasses_by_class rfl) r1)) hq
/-- the first place of a text in a list of texts -/
theorem index_s {σ : L2.St} {H : Hp} {ta tb : TE} {xs : List Str} {x : Str} (hm : x ∈ xs) (ho : EvP ta σ H (is (rLst rStr) xs)) (hx : EvP tb σ H (is rStr x)) : Ev (tBM K "list" (rIndex K) ta (tCons tb tNil)) σ H (.int (xs.idxOf x : Nat)) := fun H1 e Q q =>
  ho H1 e _ fun v H2 e2 ⟨a, vs, ev, hv, r⟩ => by
    subst ev
    refine ⟨.inl ⟨rfl, vs, .inl (.inl hv)⟩, strV hx H2 (e.trans e2) _ fun H3 e3 => ?_⟩
    obtain ⟨h1, h2⟩ := idxOf_hit hm
    have ev := strs_of r
    refine ⟨a, vs, .str x, xs.idxOf x, .str x, rfl, rfl, .inl (.inl (e3 a _ hv)), rfl, by rw [ev]; exact FM.flat_strs xs, by rw [ev, List.getElem?_map, h1]; rfl, by show (x == x) = true; simp, fun m z hm' hz => ?_, q H3 (e2.trans e3)⟩
    rw [ev, List.getElem?_map] at hz
    cases k : xs[m]? with
    | none => rw [k] at hz; cases hz
    | some y =>
      rw [k] at hz
      cases hz
      show (y == x) = false
      simpa using h2 m y hm' k
theorem ok_Hierarchy_position_of (T : Txt K mg) (G_Hierarchy_require_class : GMt P w K mg base "Hierarchy" "require_class" 2 (sp_req (K := K))) (G_Hierarchy_names : GMt P w K mg base "Hierarchy" "names" 1 (sp_names (K := K))) : GMt P w K mg base "Hierarchy" "position_of" 3 (sp_pos (K := K)) := by
  obtain ⟨fd, F⟩ := T.d_Hierarchy_position_of
  have sc := (C8.fnScope_by (N := ["self", "name"]) (P := ["self", "name"]) (sc := defScope st_Hierarchy_position_of) (by kernel_rfl))
  refine gmt T.cls_Hierarchy T.m_Hierarchy_position_of F sc (F.bindsN fun _ _ _ _ _ _ us hl => match us, hl with | [_, _], _ => rfl) (fun i vs H ⟨_, _, e, _⟩ => by rw [e]; rfl) ?_
  intro cdv A outer s H E ⟨⟨rows, x⟩, hx⟩ vs Q hr ⟨v1, v2, e, r1, r2⟩ hq
  have nd := sc.nd
  subst e
  refine ⟨_, (PSs.nox (pss_cons (ps_expr (kmeth G_Hierarchy_require_class hr (pv 0) (pa_cons (pv 1) pa_nil)))
      (pss_one (ps_ret (k_bm K PySem.F.plainAttrs_list PySem.F.slot_list_index PySem.F.type_list_index (k_index K) (kmeth0 G_Hierarchy_names hr (pv 0)) (pa_cons (pv 1) pa_nil)))))), ?_⟩
  refine sq (r_drop (mcall_ (P := fun (_ : HasI) => isNon) (R := rH K) ⟨(rows, x), hx⟩ (var rfl r1) (rH_ob fun _ _ => rfl) (ea1 (var (R := rStr) rfl r2)) m1) fun v H1 e1 _ => ?_)
  exact r_ret (P := is rInt _) (Ev.i (index_s hx (EvP.of_nw (mcall_ (P := fun (i : Rows Str) => nw (rLst rStr) (nms i)) (R := rH K) rows (var rfl (up e1 r1)) (rH_ob fun _ _ => rfl) EvAs.nil m0)) (var rfl r2))) fun v H2 e2 p => hq v H2 (e1.trans e2) p
theorem ok_Hierarchy_is_at_or_below (T : Txt K mg) (G_Hierarchy_require_class : GMt P w K mg base "Hierarchy" "require_class" 2 (sp_req (K := K))) : GMt P w K mg base "Hierarchy" "is_at_or_below" 3 (sp_below (K := K)) := by
  obtain ⟨fd, F⟩ := T.d_Hierarchy_is_at_or_below
  have sc := (C8.fnScope_by (N := ["self", "name", "other"]) (P := ["self", "name", "other"]) (sc := defScope st_Hierarchy_is_at_or_below) (by kernel_rfl))
  refine gmt T.cls_Hierarchy T.m_Hierarchy_is_at_or_below F sc (F.bindsN fun _ _ _ _ _ _ us hl => match us, hl with | [_, _, _], _ => rfl) (fun i vs H ⟨_, _, _, e, _⟩ => by rw [e]; rfl) ?_
  intro cdv A outer s H E ⟨⟨rows, x, y⟩, hx, hy⟩ vs Q hr ⟨v1, v2, v3, e, r1, r2, r3⟩ hq
  have nd := sc.nd
  have hu := u1 hr
  subst e
  refine ⟨_, (PSs.nox (pss_cons (ps_expr (kmeth G_Hierarchy_require_class hr (pv 0) (pa_cons (pv 1) pa_nil)))
      (pss_cons (ps_expr (kmeth G_Hierarchy_require_class hr (pv 0) (pa_cons (pv 2) pa_nil)))
      (pss_one (ps_ret (pe_cmpR (k_in K) (pv 2) (pe_dget hu (k_fld K (pv 0)) (pv 1) (by intro _ _; rfl)) (by rfl))))))), ?_⟩
  refine sq (r_drop (mcall_ (P := fun (_ : HasI) => isNon) (R := rH K) ⟨(rows, x), hx⟩ (var rfl r1) (rH_ob fun _ _ => rfl) (ea1 (var (R := rStr) rfl r2)) m1) fun _ H1 e1 _ => ?_)
  refine sq (r_drop (mcall_ (P := fun (_ : HasI) => isNon) (R := rH K) ⟨(rows, y), hy⟩ (var rfl (up e1 r1)) (rH_ob fun _ _ => rfl) (ea1 (var (R := rStr) rfl r3)) m1) fun _ H2 e2 _ => ?_)
  obtain ⟨a, dx, ds, da, ea, ha, _, r5⟩ := up (R := rH K) (e1.trans e2) r1
  subst ea
  have z := inL (K := K) (H := H2) (var (i := 2) (σ := [some (V.ref a), some v2, some v3]) rfl r3) (getS (R := rLst rStr) (ev_is (fld (te := tVar 0) (Evl.ev_var rfl) ha T.cls_Hierarchy T.no_ancestors_by_class rfl) (rDicU.rd r5)) (var (i := 1) rfl r2) (at_anc hx))
  rw [isIn_fil hy] at z
  exact r_ret (P := is rBool _) (Ev.b z) fun v H3 e3 p => hq v H3 ((e1.trans e2).trans e3) p
/-- a new list that is made while a dict with texts as keys is locked -/
theorem lockEK {σ : L2.St} {H : Hp} {te : TE} {γ : Type} {S : Rdr γ} [MoT S] {d : Addr} {kvs : List (Key × V)} {x : List γ} (hd : H d = some (.dK kvs)) (h : ∀ od, EvP te σ (upd H d (.frz od (.dK kvs))) (nw (rLst S) x)) : EvP (tLockE te) σ H (nw (rLst S) x) := fun H1 e Q q =>
  ⟨d, .dK kvs, e d _ hd, trivial, fun od => h od _ (ex_lock e) _ fun v H2 e2 ⟨a, ev, hn, b, vs, eb, hb, r⟩ => by
    have h2 : H2 d = some (.frz od (.dK kvs)) := e2 d _ upd_same
    have hne : a ≠ d := fun z => by subst z; rw [upd_same] at hn; cases hn
    rw [upd_ne hne] at hn
    subst ev
    cases eb
    exact ⟨h2, q _ _ (ex_unlock (e d _ hd) e2) ⟨a, rfl, hn, a, vs, rfl, by rw [upd_ne hne]; exact hb, pmap r fun _ _ z => upT (Tx.upd h2 (fun _ k => by cases k) fun _ _ k => by cases k) z⟩⟩⟩
theorem lst_upd {γ : Type} {S : Rdr γ} [MoT S] {H : Hp} {d : Addr} {kvs : List (Key × V)} {o : HO} {v : V} {x : List γ} (hd : H d = some (.dK kvs)) (h : rLst S H v x) : rLst S (upd H d o) v x := by
  obtain ⟨a, vs, e, ha, r⟩ := h
  refine ⟨a, vs, e, ?_, pmap r fun _ _ z => upT (Tx.upd hd (fun _ k => by cases k) fun _ _ k => by cases k) z⟩
  rw [upd_ne (fun z => by subst z; rw [hd] at ha; cases ha)]
  exact ha
theorem i_itemsS' {σ : L2.St} {H : Hp} {te : TE} {β : Type} {R : Rdr β} [Mono R] {kvs : List (Key × V)} {m : List (Str × β)} {d : Addr} {o : Obj} (h : Ev te σ H (.ref d)) (hd : H d = some (.frz o (.dK kvs))) (r : Paired (fun (kv : Key × V) z => (kv.1 = kS z.1 ∧ sOk z.1) ∧ R H kv.2 z.2) kvs m) :
    EvI (iItems te) σ H m.length (ith (rPair rStr R) m) := i_itemsS h hd r
theorem ok_Hierarchy_descendants (T : Txt K mg) (G_Hierarchy_require_class : GMt P w K mg base "Hierarchy" "require_class" 2 (sp_req (K := K))) : GMt P w K mg base "Hierarchy" "descendants" 3 (sp_desc (K := K)) := by
  obtain ⟨fd, F⟩ := T.d_Hierarchy_descendants
  have sc := (C8.fnScope_by (N := ["self", "name", "lower", "ancestors"]) (P := ["self", "name"]) (sc := defScope st_Hierarchy_descendants) (by kernel_rfl))
  refine gmt T.cls_Hierarchy T.m_Hierarchy_descendants F sc (F.bindsN fun _ _ _ _ _ _ us hl => match us, hl with | [_, _], _ => rfl) (fun i vs H ⟨_, _, e, _⟩ => by rw [e]; rfl) ?_
  intro cdv A outer s H E ⟨⟨rows, x⟩, hx, hlen⟩ vs Q hr ⟨v1, v2, e, r1, r2⟩ hq
  have nd := sc.nd
  subst e
  refine ⟨_, (PSs.nox (pss_cons (ps_expr (kmeth G_Hierarchy_require_class hr (pv 0) (pa_cons (pv 1) pa_nil)))
      (pss_one (ps_ret (pe_lock (pe_lc (own := [("lower", 2), ("ancestors", 3)]) (by rfl) nd (pi_items (k_fld K (pv 0))) (blkOk_by (by kernel_rfl)) (fun _ _ _ _ _ => (k_gtup K (n := 2) (pgs_cons (pg_name (i := 2) nd (by rfl) (by first | exact Or.inl rfl | exact Or.inr rfl)) (pgs_cons (pg_name (i := 3) nd (by rfl) (by first | exact Or.inl rfl | exact Or.inr rfl)) pgs_nil)))) (fun _ _ _ _ _ => (pts_one (pt_cmpR (k_in K) (pv 1) (pv 3) (by rfl)))) (fun _ _ _ _ _ => (pv 2)))))))), ?_⟩
  have hlen : rows.length ≤ 20 := hlen
  refine sq (r_drop (mcall_ (P := fun (_ : HasI) => isNon) (R := rH K) ⟨(rows, x), hx⟩ (var rfl r1) (rH_ob fun _ _ => rfl) (ea1 (var (R := rStr) rfl r2)) m1) fun _ H1 e1 _ => ?_)
  obtain ⟨a, dx, ds, da, ea, ha, _, ⟨d, kvs, ed, hd, r5⟩⟩ := up (R := rH K) e1 r1
  subst ea
  cases ed
  have hfil : ((ancs rows).filter fun z => isIn x z.2).map (·.1) = (nms rows).filter fun y => leOf rows y x := by
    unfold ancs nms
    rw [List.filter_map, List.map_map, List.filter_map]
    show (rows.filter _).map (·.1) = (rows.filter _).map (·.1)
    congr 1
    refine List.filter_congr fun r hr => ?_
    show isIn x ((rows.map (·.1)).filter fun y => leOf rows r.1 y) = leOf rows r.1 x
    exact isIn_fil hx
  refine r_ret (P := nw (rLst rStr) _) (lockEK hd fun od => ?_) fun v H2 e2 p => hq v H2 (e1.trans e2) (Dn.dn e1 p)
  rw [← hfil]
  have hda : a ≠ da := fun z => by subst z; rw [ha] at hd; cases hd
  refine lcD (R := rPair rStr (rLst rStr)) (R' := rStr) (xs := ancs rows) (fun z => isIn x z.2) (fun z => z.1) (gm_tup (gm_cons gm_name (gm_cons gm_name gm_nil)))
    (i_itemsS' (fld (Evl.ev_var rfl) (by rw [upd_ne hda]; exact ha) T.cls_Hierarchy T.no_ancestors_by_class rfl) upd_same (pmap r5 fun _ _ z => ⟨z.1, lst_upd hd z.2⟩)) (by unfold ancs; rw [List.length_map]; omega) ?_
  rintro j ⟨y, ys⟩ v H3 hy e3 ⟨b, y1, y2, rfl, hb, ry1, ry2⟩
  exact ⟨b, _, rfl, .inl (.inl hb), rfl, y1, _, rfl, y2, _, rfl, rfl, Ex.refl _, rfl, Evl.et_test (inL (var rfl r2) (var rfl ry2)), fun _ => (var rfl ry1).flatI⟩
end
end FM

/-! ## FCall -/
set_option Elab.async false
set_option linter.all false
set_option maxRecDepth 100000
set_option maxHeartbeats 2000000
/-! Defs with a star parameter that takes one value, and calls of them. -/
namespace FM
open PySem PySem.Spec PyProof.Rows L2
open Evl (Ex EvT Ev)
section
variable {P : Program} {w : World} {K : PySem.W.Frag} {mg : Str → Option Value} {base : Heap} {ι : Type} {A : ι → List V → Hp → Prop} {A1 : ι → List V → Hp → Prop} {Pp : ι → Hp → V → Hp → Prop} {x y qual : Str} {params : Arguments} {body : List Stmt} {scope : Scope} {f : Addr} {fd : FuncData} {N ps : List Str} {k : Nat}
structure GFnR (P : Program) (w : World) (K : PySem.W.Frag) (mg : Str → Option Value) (base : Heap) (x : Str) (k : Nat) (sp : Sp) : Prop where
  ex : ∃ f, mg x = some (.ref f) ∧ PySem.W.keepIn K (.ref f) = true ∧ FnR P w K mg base CX0 k f sp
structure GMtR (P : Program) (w : World) (K : PySem.W.Frag) (mg : Str → Option Value) (base : Heap) (C m : Str) (g : Addr) (k : Nat) (sp : Sp) : Prop where
  cls : Cls K (He.ga K C)
  bm : BMeth K (He.ga K C) m g
  run : FnR P w K mg base CX0 k g sp
/-- one value for the star parameter: a new tuple of it -/
theorem star1 {pv : Str} (F : FunD K y qual params body scope [] [] f fd) (S : FnScope N (ps ++ [pv]) scope)
    (hb : ∀ (kV doc pm : Value) (an : Option Addr) (cdv ct : Value) (us : List Value) (r : Value), us.length = ps.length → bindArgs (PySem.W.fnOf y qual params body scope .none kV doc pm an cdv ct) ⟨us ++ [r], []⟩ = (newTuple [r] >>= fun t => pure (ps.zip us ++ [(pv, t)])))
    (hd : ∀ i, Dn (Pp i)) (hA : ∀ i vs H, A1 i vs H → ∃ ws v, vs = ws ++ [v] ∧ ws.length = ps.length ∧ ∀ p, H p = none → A i (ws ++ [.ref p]) (upd H p (.tup [v])))
    (h : Bod P w K mg base N qual scope body f k A Pp) : FnR P w K mg base CX0 (k + 1) f (spOf A1 Pp) := by
  obtain ⟨oc, od, dV, kV, doc, pm, an, cdv, ct, osl, rfl, lk, hcd, hD, _⟩ := F.ex
  have hdV : dV = .none := by
    rcases hD with ⟨_, e⟩ | ⟨e, _⟩
    · exact e
    · exact absurd rfl e
  subst hdV
  rintro A0 outer s H us vs Q E hr e0 rv ⟨i, hi, hq⟩
  obtain ⟨ws, v, rfl, hl, hA⟩ := hA i vs H hi
  obtain ⟨u1, u2, rfl, r1, r2⟩ := StX.vals_split rv
  obtain ⟨u, rfl, ru⟩ := r2.one
  have hu1 : u1.length = ps.length := r1.length.symm.trans hl
  have hfr : H s.heap.objs.size = none := e0.hok.fresh (Nat.le_refl _)
  refine StX.run_bnd lk hcd S hr e0 (G := fun xs H2 => ∃ p, H p = none ∧ xs = ws ++ [V.ref p] ∧ H2 = upd H p (.tup [v])) (fun A2 Ex2 Q2 hk => ?_) fun s2 H2 xs ⟨p, hp, ex, eH⟩ hr2 => ?_
  · rw [hb kV doc pm an cdv ct u1 u hu1]
    refine wpAny_bind (wpAny_newTuple (wpAny_pure ?_) (by show 1 ≤ sizeLine; decide))
    have obj : ObjOk P w (upd H s.heap.objs.size (.tup [v])) (s.heap.push { cls := .type "tuple", data := .seq [u].toArray }) s.heap.objs.size (.tup [v]) :=
      ⟨by show 1 ≤ sizeLine; decide, [u], .cons ru .nil, _, Heap.get?_push_size _ rfl, rfl, _, rfl⟩
    have got := hk _ _ (ws ++ [V.ref s.heap.objs.size]) (u1 ++ [Value.ref s.heap.objs.size]) (StX.env0_laid e0 obj) (StX.un_laid (s := s) hfr) rfl (fun _ _ z => z) (r1.append (.cons rfl .nil)) (by rw [List.length_append, List.length_append, hl] <;> rfl) ⟨_, hfr, rfl, rfl⟩
    rw [List.zip_append hu1.symm] at got
    exact got
  · subst ex eH
    exact h cdv A0 outer s2 _ E i _ Q hr2 (hA p hp) fun v' H' e pq => hq v' H' ((Ex.new hp).trans e) ((hd i).dn (Ex.new hp) pq)
theorem gfnS {pv : Str} (hg : mg x = some (.ref f)) (F : FunD K y qual params body scope [] [] f fd) (S : FnScope N (ps ++ [pv]) scope)
    (hb : ∀ (kV doc pm : Value) (an : Option Addr) (cdv ct : Value) (us : List Value) (r : Value), us.length = ps.length → bindArgs (PySem.W.fnOf y qual params body scope .none kV doc pm an cdv ct) ⟨us ++ [r], []⟩ = (newTuple [r] >>= fun t => pure (ps.zip us ++ [(pv, t)])))
    (hd : ∀ i, Dn (Pp i)) (hA : ∀ i vs H, A1 i vs H → ∃ ws v, vs = ws ++ [v] ∧ ws.length = ps.length ∧ ∀ p, H p = none → A i (ws ++ [.ref p]) (upd H p (.tup [v])))
    (h : Bod P w K mg base N qual scope body f k A Pp) : GFnR P w K mg base x (k + 1) (spOf A1 Pp) := ⟨f, hg, F.kp, star1 F S hb hd hA h⟩
end
section
variable {X : Cx} {x C m : Str} {k j : Nat} {sp : Sp} {e o : Expr} {es : List Expr} {t : TA} {ta te : TE} {p p2 pos apos : Pos} {g : Addr} {P : Program} {w : World} {K : PySem.W.Frag} {mg : Str → Option Value} {base : Heap}
/-- the promise at the values of the arguments -/
def tCallR (sp : Sp) (t : TA) : TE := fun σ H Q => t σ H fun vs H1 => sp vs H1 Q E0
theorem kcallR (G : GFnR P w K mg base x k sp) (hr : Room j X.A) (ha : PA X (e :: es) t) (cn : Cn X P w K mg base := by exact ⟨rfl, rfl, rfl, rfl, rfl⟩) (hkj : k ≤ j := by decide) (hg : Gl X x := by rfl) (hdb : (x == ("__debug__" : Str)) = false := by decide)
    (he : starEach (e :: es) X.env = (false, eval e X.env) :: starEach es X.env := by rfl) (hpl : (backTo pos (starEach es X.env)).any (·.1) = false := by rfl) : PE X (.Call (.Name x p) (e :: es) [] pos) (tCallR sp t) := by
  obtain ⟨rfl, rfl, rfl, rfl, rfl⟩ := cn
  obtain ⟨f, h1, h2, h3⟩ := G.ex
  refine ⟨fun pins s σ H Q I h => wpAny_Call_Name_kw (ld_glob I hg h1 ?_ hdb)⟩
  exact PySem.W.callWith_K (h₀ := X.base) I.ok.mod.kin h2 (thn (ha.run pos pins s σ H _ I h) fun us s1 ⟨vs, H1, I1, r, q⟩ => ⟨I1.kIn, wpAny_call (run_fnR h3 (hr.mono hkj) pass0 I1 r q)⟩) he hpl
theorem kcallS (G : GFnR P w K mg base x k sp) (hr : Room j X.A) (ha : PA X (e :: es) t) (cn : Cn X P w K mg base := by exact ⟨rfl, rfl, rfl, rfl, rfl⟩) (hkj : k ≤ j := by decide) (hg : Gl X x := by rfl) (hdb : (x == ("__debug__" : Str)) = false := by decide)
    (he : starEach (e :: es) X.env = (false, eval e X.env) :: starEach es X.env := by rfl) (hst : (backTo pos (starEach es X.env)).any (·.1) = true := by rfl) : PE X (.Call (.Name x p) (e :: es) [] pos) (tCallR sp t) := by
  obtain ⟨rfl, rfl, rfl, rfl, rfl⟩ := cn
  obtain ⟨f, h1, h2, h3⟩ := G.ex
  exact StX.pe_callS2 h3 (hr.mono hkj) h2 hg h1 pass0 ha hdb he hst
theorem k_star (K : PySem.W.Frag) (he : PE X e te) (hr : PA X es t) (hs : starEach (.Starred e p :: es) X.env = (true, eval e X.env) :: starEach es X.env := by rfl) (ek : X.K = K := by rfl) : PA X (.Starred e p :: es) (StX.tStar K te t) := by
  subst ek
  exact StX.pa_star he hr hs
theorem kmethS (G : GMtR P w K mg base C m g k sp) (hr : Room j X.A) (ho : PE X o ta) (ha : PE X e te) (cn : Cn X P w K mg base := by exact ⟨rfl, rfl, rfl, rfl, rfl⟩) (hkj : k ≤ j := by decide) (hbase : attributeBase o m X.env (eval o X.env) = eval o X.env := by rfl) :
    PE X (.Call (.Attribute o m apos) [.Starred e p2] [] pos) (tMethS K (He.ga K C) m g sp E0 ta te) := by
  obtain ⟨rfl, rfl, rfl, rfl, rfl⟩ := cn
  exact pe_methS ho G.cls G.bm G.run (hr.mono hkj) pass0 ha hbase
end
section
variable {K : PySem.W.Frag} {σ : L2.St} {H : Hp} {te ta : TE} {tr : TA} {β γ : Type} {R : Rdr β} {S : Rdr γ} {x : β}
theorem callR_ {ι : Type} {A : ι → List V → Hp → Prop} {P : ι → Hp → V → Hp → Prop} (i : ι) [Dn (P i)] (h : EvAs tr σ H (A i)) : EvP (tCallR (spOf A P) tr) σ H (P i) := fun H1 a Q q =>
  h H1 a _ fun vs H2 e p => ⟨i, p, fun v H3 e3 r => q v H3 (e.trans e3) (Dn.dn e r)⟩
/-- a star argument of one item -/
theorem star_ [Mono R] {v : List V → Hp → Prop} (h : EvP te σ H (is (rTupR R) [x])) (hr : EvAs tr σ H (fun vs _ => vs = [])) : EvAs (StX.tStar K te tr) σ H (a1 R x) := fun H1 e Q q =>
  h H1 e _ fun u H2 e2 ⟨a, vs, eu, ha, r⟩ => ⟨a, vs, eu, .inl (.inl ha), hr H2 (e.trans e2) _ fun ws H3 e3 ew => by
    subst ew
    refine q _ H3 (e2.trans e3) ?_
    cases r with
    | cons h1 h2 =>
      cases h2
      exact ⟨_, rfl, up e3 h1⟩⟩
/-- a method with all its arguments in a tuple -/
theorem mcallS_ {ι : Type} {A : ι → List V → Hp → Prop} {P : ι → Hp → V → Hp → Prop} {C g : Addr} {m : Str} {ys : List γ} [Mono R] (i : ι) [Dn (P i)] (ho : EvP ta σ H (is R x)) (ob : ∀ {H v}, R H v x → ∃ a dx fs, v = .ref a ∧ H a = some (.ins C dx fs) ∧ fs.lookup m = none)
    (hr : EvP te σ H (is (rTupR S) ys)) (hA : ∀ v vs H2, R H2 v x → Paired (S H2) vs ys → A i (v :: vs) H2) : EvP (tMethS K C m g (spOf A P) E0 ta te) σ H (P i) := fun H1 e Q q =>
  ho H1 e _ fun v H2 e2 r => by
    obtain ⟨a, dx, fs, ev, ha, hf⟩ := ob r
    subst ev
    refine ⟨a, dx, fs, rfl, ha, hf, fun b hb => hr _ ((e.trans e2).trans (Ex.new hb)) _ fun u H3 e3 ⟨c, vs, eu, hc, rs⟩ => ⟨c, vs, eu, .inl hc, e3 b _ upd_same, i, hA _ vs H3 (up ((Ex.new hb).trans e3) r) rs, fun w H4 e4 z => q w H4 (((e2.trans (Ex.new hb)).trans e3).trans e4) (Dn.dn ((e2.trans (Ex.new hb)).trans e3) z)⟩⟩
end
end FM

/-! ## FLc2 -/
set_option Elab.async false
set_option linter.all false
set_option maxRecDepth 100000
set_option maxHeartbeats 2000000
/-! A comprehension with two walks. -/
namespace FM
open PySem PySem.Spec PyProof.Rows L2
open Evl (Ex EvT Ev)
section
variable {σ : L2.St} {H : Hp} {wi wi1 : TI} {g g1 : TG} {tt tt1 : TT} {te : TE} {vs vs1 : List Nat} {β γ δ : Type} {R : Rdr β} {S : Rdr δ} {R' : Rdr γ} {xs : List β} {ysf : β → List δ}
/-- the list at D holds zs, whatever becomes of D -/
def Hol (R' : Rdr γ) (H2 : Hp) (D : Addr) (zs : List γ) (H' : Hp) : Prop := Ex H2 H' ∧ ∃ ws, H' D = some (.lst ws) ∧ Paired (fun v y => ∀ H'', (∀ a o, a ≠ D → H' a = some o → H'' a = some o) → R' H'' v y) ws zs
theorem Hol.up {H2 H3 H' : Hp} {D : Addr} {zs : List γ} (h : Hol R' H2 D zs H') (e : Ex H' H3) : Hol R' H2 D zs H3 := by
  obtain ⟨e1, ws, hw, p⟩ := h
  exact ⟨e1.trans e, ws, e D _ hw, pmap p fun _ _ r H'' k => r H'' fun a o ha q => k a o ha (e a o q)⟩
theorem Hol.add {H2 H' H7 : Hp} {D : Addr} {zs : List γ} {y : γ} {v : V} {S1 : γ → Prop} (hD : H2 D = none) (h : Hol R' H2 D zs H') (e7 : Ex H' H7) (r : ∃ z, z = y ∧ ∀ H'', (∀ a o, H' a = none → H7 a = some o → H'' a = some o) → Tx H7 H'' → R' H'' v z) :
    ∃ acc, H7 D = some (.lst acc) ∧ acc.length = zs.length ∧ Hol R' H2 D (zs ++ [y]) (upd H7 D (.lst (acc ++ [v]))) := by
  obtain ⟨e1, ws, hw, p⟩ := h
  obtain ⟨_, rfl, r⟩ := r
  have h7 := e7 D _ hw
  refine ⟨ws, h7, plen p, Ex.mut (e1.trans e7) hD, ws ++ [v], upd_same, psnoc (pmap p fun _ _ r H'' k => r H'' fun a o ha q => k a o ha ?_) fun H'' k => r H'' (fun a o ha q => k a o ?_ ?_) fun a o us kk q => k a o ?_ ?_⟩
  · rw [upd_ne ha]; exact e7 a o q
  · intro z; subst z; rw [hw] at ha; cases ha
  · rw [upd_ne (fun z => by subst z; rw [hw] at ha; cases ha)]; exact q
  · intro z; subst z; rw [h7] at q; cases q; rcases kk with kk | ⟨_, kk⟩ <;> cases kk
  · rw [upd_ne (fun z => by subst z; rw [h7] at q; cases q; rcases kk with kk | ⟨_, kk⟩ <;> cases kk)]; exact q
theorem flat_take_le {α ε : Type} (f : α → List ε) (l : List α) (k : Nat) : ((l.take k).flatMap f).length ≤ (l.flatMap f).length := by
  have h : (l.take k ++ l.drop k).flatMap f = l.flatMap f := by rw [List.take_append_drop]
  rw [← h, List.flatMap_append, List.length_append]
  omega
theorem lc2M (h : β → δ → γ) (gm : GM g) (gm1 : GM g1) (hi : EvI wi σ H xs.length (ith R xs)) (hn : (xs.flatMap fun x => (ysf x).map (h x)).length ≤ 50000)
    (ht : ∀ (i : Nat) (x : β) v H1, xs[i]? = some x → Ex H H1 → R H1 v x → g v (wipe σ vs) H1 fun σ2 H2 => Ex H1 H2 ∧ wipe σ2 vs = wipe σ vs ∧ EvT tt σ2 H2 true ∧ EvJ wi1 σ2 H (ysf x).length (ith S (ysf x)) ∧
      ∀ (j : Nat) (y : δ) w H3, (ysf x)[j]? = some y → Ex H H3 → R H3 v x → S H3 w y → g1 w (wipe σ2 vs1) H3 fun σ3 H4 => Ex H3 H4 ∧ wipe σ3 vs1 = wipe σ2 vs1 ∧ EvT tt1 σ3 H4 true ∧ EvP te σ3 H4 (someF R' fun z => z = h x y))
    (hR : ∀ {H' H'' : Hp} {v : V} {x : β}, Tx H' H'' → R H' v x → R H'' v x) :
    EvP (tLc2 wi g tt wi1 g1 tt1 te vs vs1) σ H (nw (rLst R') (xs.flatMap fun x => (ysf x).map (h x))) := fun H1 e1 Q q =>
  hi H1 e1 _ fun J H2 e2 w D hD => by
    refine ⟨fun i m H' => m = xs.length - i ∧ i ≤ xs.length ∧ Hol R' H2 D ((xs.take i).flatMap fun x => (ysf x).map (h x)) H', ⟨xs.length, rfl, Nat.zero_le _, Ex.new hD, [], upd_same, .nil⟩, ?_⟩
    rintro i m H3 ⟨rfl, hin, hol⟩
    by_cases hlt : i < xs.length
    · have hx : xs[i]? = some xs[i] := List.getElem?_eq_getElem hlt
      have htk : (xs.take (i + 1)).flatMap (fun x => (ysf x).map (h x)) = (xs.take i).flatMap (fun x => (ysf x).map (h x)) ++ (ysf xs[i]).map (h xs[i]) := by
        rw [List.take_add_one, hx, List.flatMap_append]
        simp
      have hb := Nat.le_trans (flat_take_le (fun x => (ysf x).map (h x)) xs (i + 1)) hn
      rw [htk, List.length_append, List.length_map] at hb
      refine .inr ⟨w.go i H3 hlt hol.1, fun H' => Hol R' H2 D ((xs.take (i + 1)).flatMap fun x => (ysf x).map (h x)) H', fun H' p => ⟨xs.length - (i + 1), by omega, rfl, hlt, p⟩, fun v H4 y => ?_⟩
      obtain ⟨e4, x, hx', rx⟩ := w.yld i H3 v H4 hlt hol.1 y
      rw [hx] at hx'
      cases hx'
      have e04 : Ex H H4 := ((e1.trans e2).trans hol.1).trans e4
      refine gm _ _ _ _ _ (fun σ2 H5 z => ?_) (ht i xs[i] v H4 hx e04 rx)
      obtain ⟨e5, hw, hT, hJ, hE⟩ := z
      refine ⟨hw, hT H5 (Ex.refl _) _ fun H6 e6 => ?_⟩
      rw [if_pos rfl]
      have hol6 := hol.up ((e4.trans e5).trans e6)
      have e06 : Ex H H6 := (e04.trans e5).trans e6
      have rx6 : R H6 v xs[i] := hR (.of (e5.trans e6)) rx
      refine hJ H6 e06 _ fun J1 H7 Hn e7 en en7 ho w1 => ?_
      have hHD : H D = none := Evl.fresh_back (e1.trans e2) hD
      obtain ⟨_, ws6, hw6, _⟩ := id hol6
      have hnD : Hn D = none := by
        cases k : Hn D with
        | none => rfl
        | some u =>
          rcases ho D u k with z | z | ⟨us, z⟩
          · rw [hHD] at z; cases z
          · rw [hw6] at z; cases z
          · have := en7 D u k
            rw [e7 D _ hw6] at this
            cases this
            rcases z with z | ⟨_, z⟩ <;> cases z
      refine ⟨fun j k H' => k = (ysf xs[i]).length - j ∧ j ≤ (ysf xs[i]).length ∧ Ex Hn H' ∧ Tx H6 H' ∧ Hol R' H2 D ((xs.take i).flatMap (fun x => (ysf x).map (h x)) ++ ((ysf xs[i]).take j).map (h xs[i])) H', ⟨_, rfl, Nat.zero_le _, en7, .of e7, by simpa using hol6.up e7⟩, ?_⟩
      rintro j k H8 ⟨rfl, hjn, e8, t8, hol8⟩
      by_cases hjl : j < (ysf xs[i]).length
      · have hy : (ysf xs[i])[j]? = some (ysf xs[i])[j] := List.getElem?_eq_getElem hjl
        refine .inr ⟨w1.go j H8 hjl e8, fun H' => Ex Hn H' ∧ Tx H6 H' ∧ Hol R' H2 D ((xs.take i).flatMap (fun x => (ysf x).map (h x)) ++ ((ysf xs[i]).take (j + 1)).map (h xs[i])) H', fun H' p => ⟨_, by omega, rfl, hjl, p⟩, fun u H9 y9 => ?_⟩
        obtain ⟨e9, y, hy', ry⟩ := w1.yld j H8 u H9 hjl e8 y9
        rw [hy] at hy'
        cases hy'
        refine gm1 _ _ _ _ _ (fun σ3 H10 z => ?_) (hE j (ysf xs[i])[j] u H9 hy ((en.trans e8).trans e9) (hR (t8.trans (.of e9)) rx6) ry)
        obtain ⟨e10, hw10, hT10, hE10⟩ := z
        refine ⟨hw10, hT10 H10 (Ex.refl _) _ fun H11 e11 => ?_⟩
        rw [if_pos rfl]
        refine hE10 H11 e11 _ fun v12 H12 e12 r12 => ?_
        have hol11 := hol8.up ((e9.trans e10).trans e11)
        obtain ⟨acc, h1, h2, h3⟩ := Hol.add (S1 := fun _ => True) hD hol11 e12 r12
        refine ⟨acc, h1, ?_, Ex.mut ((((e8.trans e9).trans e10).trans e11).trans e12) hnD, ?_, ?_⟩
        · rw [List.length_append, List.length_map] at h2
          have := List.length_take_le' j (ysf xs[i])
          exact Evl.sz_lt (by omega)
        · exact (t8.trans (.of (((e9.trans e10).trans e11).trans e12))).trans (Tx.upd h1 (fun _ k => by cases k) fun _ _ k => by cases k)
        · have : ((ysf xs[i]).take (j + 1)).map (h xs[i]) = ((ysf xs[i]).take j).map (h xs[i]) ++ [h xs[i] (ysf xs[i])[j]] := by
            rw [List.take_add_one, hy, List.map_append]
            rfl
          rw [this, ← List.append_assoc]
          exact h3
      · have e : j = (ysf xs[i]).length := by omega
        subst e
        refine .inl ⟨w1.stop H8 e8, ?_⟩
        show Hol R' H2 D _ H8
        rw [htk]
        rw [List.take_length] at hol8
        exact hol8
    · have e : i = xs.length := by omega
      subst e
      obtain ⟨e3, ws, hw, p⟩ := hol
      rw [List.take_length] at p
      exact .inl ⟨w.stop H3 e3, q _ H3 (e2.trans e3) ⟨D, rfl, Evl.fresh_back e2 hD, D, ws, rfl, hw, pmap p fun _ _ r => r H3 fun _ _ _ h => h⟩⟩
end
end FM

/-! ## FZip -/
set_option Elab.async false
set_option linter.all false
set_option maxRecDepth 100000
set_option maxHeartbeats 2000000
/-! zip(t, *u) whose pairs are kept: the walk with one name as its target. -/
namespace FZ
open PySem PySem.Spec PyProof.Rows L2
/-- a zip record: what it says of its last tuple, whether that is known to be out -/
abbrev ZRec (h : Heap) (z TI TO : Addr) (slot : Value) (f : Bool) : Prop := h.get? z = some { cls := .type "zip", dict := none, data := .fields #[slot, .bool f, .bool false, .ref TI, .ref TO], slots := #[] }
section
variable {prog : Program} {w : World} {A : Around} {E : Value → Shared → Prop} {s : Shared} {z TI TO i1 i2 l1 l2 : Addr} {slot : Value} {f : Bool} {k1 k2 : Nat} {xs ys : Array Value} {x y a b : Value}
def Slot (v : Value) : Prop := v = .none ∨ ∃ T : Nat, v = rawInt T
theorem own_free {Q : Bool → Shared → Prop} (hs : Slot slot) (hz : ZRec s.heap z TI TO slot f) (hA : Q true s) (hB : ∀ g, ZRec g z TI TO slot true → Heap.SameBut z s.heap g → Q false { s with heap := g }) :
    wpAny (model prog w) A (Builtin.SmallTypes.ownedTupleIsFree (.ref z)) Q E s := by
  unfold Builtin.SmallTypes.ownedTupleIsFree
  rcases hs with rfl | ⟨T, rfl⟩
  · exact wpAny_bind (wpAny_field hz rfl (x := .none) rfl (wpAny_pure hA))
  · refine wpAny_bind (wpAny_field hz rfl (x := rawInt T) rfl ?_)
    show wpAny _ _ (loadIfAlive ((T : Int).toNat) >>= _) _ _ _
    rw [Int.toNat_natCast]
    refine wpAny_bind (show wpAny (model prog w) A (loadIfAlive T) _ E s from fun _ _ _ => ?_)
    have key : wpAny (model prog w) A (if (s.heap.get? T).isNone = true then pure true else do
        if (← field (.ref z) 1) != .bool true then setField (.ref z) 1 (.bool true)
        return false) Q E s := by
      cases q : s.heap.get? T with
      | none => exact wpAny_pure hA
      | some o =>
        rw [if_neg (by simp)]
        refine wpAny_bind (wpAny_field hz rfl (x := .bool f) rfl ?_)
        cases f with
        | true =>
          rw [if_neg (show ¬ ((Value.bool true != Value.bool true) = true) from Bool.false_ne_true)]
          exact wpAny_pure (hB s.heap hz (Heap.SameBut.refl _ _))
        | false =>
          rw [if_pos (show (Value.bool false != Value.bool true) = true from rfl)]
          exact wpAny_bind (wpAny_setField_rec hz (by simp) fun g hg hk => wpAny_pure (hB g hg hk))
    first
      | exact key
      | (have key2 := key; simpa using key2)
/-- what a zip of two tuples is, ahead of its turns k1 and k2 -/
structure ZS (h : Heap) (z TI TO i1 i2 l1 l2 : Addr) (k1 k2 : Nat) : Prop where
  rc : ∃ slot f, Slot slot ∧ ZRec h z TI TO slot f
  ti : IsPair h TI (.ref i1) (.ref i2)
  to : ∃ a b, IsPair h TO a b
  it1 : h.IsTupleIter i1 l1 k1
  it2 : h.IsTupleIter i2 l2 k2
/-- nothing is changed but the record, its own tuple and the two iterators -/
def Bt (z TO i1 i2 : Addr) (h g : Heap) : Prop := ∀ c o, c ≠ z → c ≠ TO → c ≠ i1 → c ≠ i2 → h.get? c = some o → g.get? c = some o
theorem draw_item {Q : Value → Shared → Prop} (D : ZipApart z TI TO i1 i2 l1 l2) (S : ZS s.heap z TI TO i1 i2 l1 l2 k1 k2) (hl1 : s.heap.IsTuple l1 xs) (hl2 : s.heap.IsTuple l2 ys) (hx : xs[k1]? = some x) (hy : ys[k2]? = some y)
    (hQ : ∀ g, ZS g z TI TO i1 i2 l1 l2 (k1 + 1) (k2 + 1) → IsPair g s.heap.objs.size x y → Bt z TO i1 i2 s.heap g → Q (.ref s.heap.objs.size) { s with heap := g }) :
    wpAny (model prog w) A (Builtin.«zip.__next__» ⟨[.ref z], []⟩) (fun fin s' => ∃ v, fin = .done (.ret v) ∧ Q v s') E s := by
  obtain ⟨⟨slot, f, hslot, hz⟩, hTI, ⟨a, b, hTO⟩, h1, h2⟩ := S
  have zl : z < s.heap.objs.size := Heap.lt_size hz
  show wpAny _ _ (field (.ref z) 2 >>= _) _ _ _
  refine wpAny_bind (wpAny_field hz rfl (x := .bool false) rfl ?_)
  show wpAny _ _ (field (.ref z) 3 >>= _) _ _ _
  refine wpAny_bind (wpAny_field hz rfl (x := .ref TI) rfl (wpAny_bind (wpAny_seqItems hTI rfl ?_)))
  show wpAny _ _ (Builtin.SmallTypes.ownedTupleIsFree (.ref z) >>= _) _ _ _
  refine wpAny_bind (own_free hslot hz ?_ fun g1 hz1 k1' => ?_)
  · -- its own tuple is taken again
    simp only [if_true]
    refine wpAny_bind (wpAny_rule (wpAny_bind (wpAny_field hz rfl (x := .ref TO) rfl (wpAny_bind (wpAny_setField_rec hz (by simp) fun g1 q1 m1 => ?_)))))
    have z1 : ZRec g1 z TI TO .ellipsis f := q1
    refine wpAny_bind ?_
    simp only [List.zipIdx_cons, List.zipIdx_nil, List.forIn_cons, List.forIn_nil]
    refine wpAny_bind (wpAny_bind (wpAny_onRaise ?_))
    show wpAny _ _ (Builtin.SmallTypes.nextOf (.ref i1) >>= _) _ _ _
    refine wpAny_bind (RZ.nextOf_tuple_item (h1.extBut m1.extBut D.i1z) (hl1.extBut m1.extBut D.l1z) hx fun g2 p1 m2 => wpAny_pure ?_)
    have o2 : IsPair g2 TO a b := m2.extBut _ _ D.TOi1 (m1.extBut _ _ D.TOz hTO)
    refine wpAny_bind (wpAny_seqItems o2 rfl (wpAny_bind (wpAny_updateSeq_pair o2 fun g3 q3 m3 => ?_)))
    have o3 : IsPair g3 TO x b := q3
    refine wpAny_bind (wpAny_letGo (wpAny_pure (wpAny_bind (wpAny_bind (wpAny_onRaise ?_)))))
    show wpAny _ _ (Builtin.SmallTypes.nextOf (.ref i2) >>= _) _ _ _
    refine wpAny_bind (RZ.nextOf_tuple_item (((h2.extBut m1.extBut D.i2z).extBut m2.extBut D.i12.symm).extBut m3.extBut D.TOi2.symm) (((hl2.extBut m1.extBut D.l2z).extBut m2.extBut D.l2i1).extBut m3.extBut D.l2TO) hy fun g4 p2 m4 => wpAny_pure ?_)
    have o4 : IsPair g4 TO x b := m4.extBut _ _ D.TOi2 o3
    refine wpAny_bind (wpAny_seqItems o4 rfl (wpAny_bind (wpAny_updateSeq_pair o4 fun g5 q5 m5 => ?_)))
    have o5 : IsPair g5 TO x y := q5
    refine wpAny_bind (wpAny_letGo (wpAny_pure (wpAny_pure (wpAny_bind (wpAny_seqItems o5 rfl (wpAny_bind (wpAny_newTuple ?_)))))))
    have sz : g5.objs.size = s.heap.objs.size := by rw [m5.1, m4.1, m3.1, m2.1, m1.1]
    have z5 : ZRec g5 z TI TO .ellipsis f := m5.extBut _ _ D.TOz.symm (m4.extBut _ _ D.i2z.symm (m3.extBut _ _ D.TOz.symm (m2.extBut _ _ D.i1z.symm z1)))
    have k5 : Bt z TO i1 i2 s.heap g5 := fun c o c1 c2 c3 c4 e => m5.extBut _ _ c2 (m4.extBut _ _ c4 (m3.extBut _ _ c2 (m2.extBut _ _ c3 (m1.extBut _ _ c1 e))))
    have r1 : g5.IsTupleIter i1 l1 (k1 + 1) := ((p1.extBut m3.extBut D.TOi1.symm).extBut m4.extBut D.i12).extBut m5.extBut D.TOi1.symm
    have r2 : g5.IsTupleIter i2 l2 (k2 + 1) := p2.extBut m5.extBut D.TOi2.symm
    show wpAny _ _ (Builtin.SmallTypes.ownedTupleHandOut (.ref z) (.ref g5.objs.size) >>= _) _ _ _
    refine wpAny_bind ?_
    unfold Builtin.SmallTypes.ownedTupleHandOut
    have z6 : ZRec (g5.push { cls := .type "tuple", data := .seq #[x, y] }) z TI TO .ellipsis f := Heap.get?_push_of_some _ z5
    refine wpAny_bind (wpAny_setField_rec z6 (by simp) fun g7 q7 m7 => ?_)
    have z7 : ZRec g7 z TI TO (rawInt g5.objs.size) f := q7
    refine wpAny_setField_rec z7 (by simp) fun g8 q8 m8 => ?_
    have z8 : ZRec g8 z TI TO (rawInt g5.objs.size) false := q8
    have up8 : ∀ c o, c ≠ z → g5.get? c = some o → g8.get? c = some o := fun c o c1 e => m8.extBut _ _ c1 (m7.extBut _ _ c1 (Heap.get?_push_of_some _ e))
    have t8 : IsPair g8 g5.objs.size x y := m8.extBut _ _ (by rw [sz]; exact Nat.ne_of_gt zl) (m7.extBut _ _ (by rw [sz]; exact Nat.ne_of_gt zl) (Heap.get?_push_size _ rfl))
    rw [sz] at z8 t8
    refine wpAny_pure ⟨_, rfl, ?_⟩
    show Q (.ref g5.objs.size) _
    rw [sz]
    exact hQ g8 ⟨⟨_, _, .inr ⟨_, rfl⟩, z8⟩, up8 _ _ D.TIz (k5 _ _ D.TIz D.TITO D.TIi1 D.TIi2 hTI), ⟨_, _, up8 _ _ D.TOz o5⟩, r1.at fun o e => up8 _ o D.i1z e, r2.at fun o e => up8 _ o D.i2z e⟩ t8 fun c o c1 c2 c3 c4 e => up8 c o c1 (k5 c o c1 c2 c3 c4 e)
  · -- it is out: a new one
    simp only [Bool.false_eq_true, if_false]
    refine wpAny_bind ?_
    rw [← Array.forIn_toList]
    simp only [List.forIn_cons, List.forIn_nil]
    refine wpAny_bind (wpAny_bind (wpAny_holding ?_))
    show wpAny _ _ (Builtin.SmallTypes.nextOf (.ref i1) >>= _) _ _ _
    refine wpAny_bind (RZ.nextOf_tuple_item (s := { s with heap := g1 }) (h1.extBut k1'.extBut D.i1z) (hl1.extBut k1'.extBut D.l1z) hx fun g2 p1 m2 => wpAny_pure (wpAny_pure (wpAny_bind (wpAny_bind (wpAny_holding ?_)))))
    show wpAny _ _ (Builtin.SmallTypes.nextOf (.ref i2) >>= _) _ _ _
    refine wpAny_bind (RZ.nextOf_tuple_item (s := { s with heap := g2 }) ((h2.extBut k1'.extBut D.i2z).extBut m2.extBut D.i12.symm) ((hl2.extBut k1'.extBut D.l2z).extBut m2.extBut D.l2i1) hy fun g3 p2 m3 => wpAny_pure (wpAny_pure (wpAny_pure ?_)))
    show wpAny _ _ (newTuple [x, y] >>= _) _ _ _
    refine wpAny_bind (wpAny_newTuple (wpAny_pure ⟨_, rfl, ?_⟩))
    have sz : g3.objs.size = s.heap.objs.size := by rw [m3.1, m2.1, k1'.1]
    have k3 : Bt z TO i1 i2 s.heap g3 := fun c o c1 _ c3 c4 e => m3.extBut _ _ c4 (m2.extBut _ _ c3 (k1'.extBut _ _ c1 e))
    have z3 : ZRec g3 z TI TO slot true := m3.extBut _ _ D.i2z.symm (m2.extBut _ _ D.i1z.symm hz1)
    have o3 : IsPair g3 TO a b := m3.extBut _ _ D.TOi2 (m2.extBut _ _ D.TOi1 (k1'.extBut _ _ D.TOz hTO))
    have pu : ∀ c o, g3.get? c = some o → (g3.push { cls := .type "tuple", data := .seq #[x, y] }).get? c = some o := fun c o e => Heap.get?_push_of_some _ e
    have t3 : IsPair (g3.push { cls := .type "tuple", data := .seq #[x, y] }) g3.objs.size x y := Heap.get?_push_size _ rfl
    show Q (.ref g3.objs.size) _
    rw [sz] at t3 ⊢
    exact hQ _ ⟨⟨_, _, hslot, pu _ _ z3⟩, pu _ _ (k3 _ _ D.TIz D.TITO D.TIi1 D.TIi2 hTI), ⟨_, _, pu _ _ o3⟩, (p1.extBut m3.extBut D.i12).at fun o e => pu _ o e, p2.at fun o e => pu _ o e⟩ t3 fun c o c1 c2 c3 c4 e => pu c o (k3 c o c1 c2 c3 c4 e)
theorem draw_end {Q : Fin → Shared → Prop} (hh : A.handled = none) (D : ZipApart z TI TO i1 i2 l1 l2) (S : ZS s.heap z TI TO i1 i2 l1 l2 k1 k2) (hl1 : s.heap.IsTuple l1 xs) (hl2 : s.heap.IsTuple l2 ys) (hend : xs[k1]? = none ∨ ys[k2]? = none)
    (hE : ∀ g e, Bt z TO i1 i2 s.heap g → (∃ o, g.get? e = some o ∧ o.cls = .type "StopIteration") → E (.ref e) { s with heap := g }) : wpAny (model prog w) A (Builtin.«zip.__next__» ⟨[.ref z], []⟩) Q E s := by
  obtain ⟨⟨slot, f, hslot, hz⟩, hTI, ⟨a, b, hTO⟩, h1, h2⟩ := S
  show wpAny _ _ (field (.ref z) 2 >>= _) _ _ _
  refine wpAny_bind (wpAny_field hz rfl (x := .bool false) rfl ?_)
  show wpAny _ _ (field (.ref z) 3 >>= _) _ _ _
  refine wpAny_bind (wpAny_field hz rfl (x := .ref TI) rfl (wpAny_bind (wpAny_seqItems hTI rfl ?_)))
  show wpAny _ _ (Builtin.SmallTypes.ownedTupleIsFree (.ref z) >>= _) _ _ _
  refine wpAny_bind (own_free hslot hz ?_ fun g1 hz1 m1 => ?_)
  · simp only [if_true]
    refine wpAny_bind (wpAny_rule (wpAny_bind (wpAny_field hz rfl (x := .ref TO) rfl (wpAny_bind (wpAny_setField_rec hz (by simp) fun g1 q1 m1 => ?_)))))
    have z1 : ZRec g1 z TI TO .ellipsis f := q1
    refine wpAny_bind ?_
    simp only [List.zipIdx_cons, List.zipIdx_nil, List.forIn_cons, List.forIn_nil]
    refine wpAny_bind (wpAny_bind (wpAny_onRaise ?_))
    show wpAny _ _ (Builtin.SmallTypes.nextOf (.ref i1) >>= _) _ _ _
    cases hx : xs[k1]? with
    | none =>
      refine wpAny_bind (RZ.nextOf_tuple_end hh (h1.extBut m1.extBut D.i1z) (hl1.extBut m1.extBut D.l1z) hx fun g2 e m2 ⟨oe, he, ce⟩ => ?_)
      have z2 : ZRec g2 z TI TO .ellipsis f := m2 _ _ D.i1z.symm z1
      have ez : e ≠ z := fun k => by subst k; rw [z2] at he; cases he; simp at ce
      exact wpAny_setField_rec z2 (by simp) fun g3 _ m3 => hE g3 e (fun c o c1 _ c3 _ k => m3.extBut _ _ c1 (m2 _ _ c3 (m1.extBut _ _ c1 k))) ⟨oe, m3.extBut _ _ ez he, ce⟩
    | some x =>
      have hy : ys[k2]? = none := hend.resolve_left fun k => by rw [hx] at k; cases k
      refine wpAny_bind (RZ.nextOf_tuple_item (h1.extBut m1.extBut D.i1z) (hl1.extBut m1.extBut D.l1z) hx fun g2 p1 m2 => wpAny_pure ?_)
      have o2 : IsPair g2 TO a b := m2.extBut _ _ D.TOi1 (m1.extBut _ _ D.TOz hTO)
      refine wpAny_bind (wpAny_seqItems o2 rfl (wpAny_bind (wpAny_updateSeq_pair o2 fun g3 q3 m3 => ?_)))
      refine wpAny_bind (wpAny_letGo (wpAny_pure (wpAny_bind (wpAny_bind (wpAny_onRaise ?_)))))
      show wpAny _ _ (Builtin.SmallTypes.nextOf (.ref i2) >>= _) _ _ _
      refine wpAny_bind (RZ.nextOf_tuple_end hh (((h2.extBut m1.extBut D.i2z).extBut m2.extBut D.i12.symm).extBut m3.extBut D.TOi2.symm) (((hl2.extBut m1.extBut D.l2z).extBut m2.extBut D.l2i1).extBut m3.extBut D.l2TO) hy fun g4 e m4 ⟨oe, he, ce⟩ => ?_)
      have z4 : ZRec g4 z TI TO .ellipsis f := m4 _ _ D.i2z.symm (m3.extBut _ _ D.TOz.symm (m2.extBut _ _ D.i1z.symm z1))
      have ez : e ≠ z := fun k => by subst k; rw [z4] at he; cases he; simp at ce
      exact wpAny_setField_rec z4 (by simp) fun g5 _ m5 => hE g5 e (fun c o c1 c2 c3 c4 k => m5.extBut _ _ c1 (m4 _ _ c4 (m3.extBut _ _ c2 (m2.extBut _ _ c3 (m1.extBut _ _ c1 k))))) ⟨oe, m5.extBut _ _ ez he, ce⟩
  · simp only [Bool.false_eq_true, if_false]
    refine wpAny_bind ?_
    rw [← Array.forIn_toList]
    simp only [List.forIn_cons, List.forIn_nil]
    refine wpAny_bind (wpAny_bind (wpAny_holding ?_))
    show wpAny _ _ (Builtin.SmallTypes.nextOf (.ref i1) >>= _) _ _ _
    cases hx : xs[k1]? with
    | none =>
      exact wpAny_bind (RZ.nextOf_tuple_end (s := { s with heap := g1 }) hh (h1.extBut m1.extBut D.i1z) (hl1.extBut m1.extBut D.l1z) hx fun g2 e m2 he => hE g2 e (fun c o c1 _ c3 _ k => m2 _ _ c3 (m1.extBut _ _ c1 k)) he)
    | some x =>
      have hy : ys[k2]? = none := hend.resolve_left fun k => by rw [hx] at k; cases k
      refine wpAny_bind (RZ.nextOf_tuple_item (s := { s with heap := g1 }) (h1.extBut m1.extBut D.i1z) (hl1.extBut m1.extBut D.l1z) hx fun g2 p1 m2 => wpAny_pure (wpAny_pure (wpAny_bind (wpAny_bind (wpAny_holding ?_)))))
      show wpAny _ _ (Builtin.SmallTypes.nextOf (.ref i2) >>= _) _ _ _
      exact wpAny_bind (RZ.nextOf_tuple_end (s := { s with heap := g2 }) hh ((h2.extBut m1.extBut D.i2z).extBut m2.extBut D.i12.symm) ((hl2.extBut m1.extBut D.l2z).extBut m2.extBut D.l2i1) hy fun g3 e m3 he => hE g3 e (fun c o c1 c2 c3 c4 k => m3 _ _ c4 (m2.extBut _ _ c3 (m1.extBut _ _ c1 k))) he)
theorem next_item {Q : Option Value → Shared → Prop} (D : ZipApart z TI TO i1 i2 l1 l2) (S : ZS s.heap z TI TO i1 i2 l1 l2 k1 k2) (hl1 : s.heap.IsTuple l1 xs) (hl2 : s.heap.IsTuple l2 ys) (hx : xs[k1]? = some x) (hy : ys[k2]? = some y)
    (hQ : ∀ g, ZS g z TI TO i1 i2 l1 l2 (k1 + 1) (k2 + 1) → IsPair g s.heap.objs.size x y → Bt z TO i1 i2 s.heap g → Q (some (.ref s.heap.objs.size)) { s with heap := g }) : wpAny (model prog w) A (pyNext (.ref z)) Q E s := by
  obtain ⟨slot, f, _, hz⟩ := S.rc
  have ty : s.TypeIs (.ref z) "zip" := ⟨_, hz, rfl⟩
  unfold pyNext
  exact wpAny_bind (wpAny_attempt (wpAny_callSpecial?_slot (name := Str.ofString "__next__") ty F.slot_zip_next (wpAny_call_entry F.slot_zip_next ty F.entry_zip_next (draw_item D S hl1 hl2 hx hy fun g a1 a2 a3 => wpAny_pure (hQ g a1 a2 a3)) (F.args_zip_next_1 _))))
theorem next_end {Q : Option Value → Shared → Prop} (hh : A.handled = none) (D : ZipApart z TI TO i1 i2 l1 l2) (S : ZS s.heap z TI TO i1 i2 l1 l2 k1 k2) (hl1 : s.heap.IsTuple l1 xs) (hl2 : s.heap.IsTuple l2 ys) (hend : xs[k1]? = none ∨ ys[k2]? = none)
    (hQ : ∀ g, Bt z TO i1 i2 s.heap g → Q none { s with heap := g }) : wpAny (model prog w) A (pyNext (.ref z)) Q E s := by
  obtain ⟨slot, f, _, hz⟩ := S.rc
  have ty : s.TypeIs (.ref z) "zip" := ⟨_, hz, rfl⟩
  unfold pyNext
  refine wpAny_bind (wpAny_attempt (wpAny_callSpecial?_slot (name := Str.ofString "__next__") ty F.slot_zip_next (wpAny_call_entry F.slot_zip_next ty F.entry_zip_next (draw_end hh D S hl1 hl2 hend fun g e hk ⟨o, ho, hc⟩ => ?_) (F.args_zip_next_1 _))))
  exact wpAny_bind (wpAny_isInstance (T := "StopIteration") (b := true) ⟨o, ho, hc⟩ isSubtype_stop (wpAny_pure (hQ _ hk)))
end
theorem mem5 {c z TI TO i1 i2 : Addr} : c ∈ [z, TI, TO, i1, i2] ↔ c = z ∨ c = TI ∨ c = TO ∨ c = i1 ∨ c = i2 := by simp
/-- the walk, its pairs kept under one name -/
theorem turn_kept {P : Program} {w : World} {K : PySem.W.Frag} {nm : Str} {np : Pos} {a b z TI TO i1 i2 : Addr} (D : ZipApart z TI TO i1 i2 a b) : Turn P w K (.Name nm np) (RZ.ItzT K a b) [z, TI, TO, i1, i2] z (fun i h => ZS h z TI TO i1 i2 a b i i) where
  mem := by simp
  obj := fun i h S c hc => by
    obtain ⟨⟨slot, f, _, hz⟩, hTI, ⟨x, y, hTO⟩, ⟨o1, e1, _, d1⟩, ⟨o2, e2, _, d2⟩⟩ := S
    rcases mem5.mp hc with rfl | rfl | rfl | rfl | rfl
    · exact ⟨_, hz, fun v q => nomatch q⟩
    · exact ⟨_, hTI, fun v q => nomatch q⟩
    · exact ⟨_, hTO, fun v q => nomatch q⟩
    · exact ⟨o1, e1, fun v q => by rw [d1] at q; cases q⟩
    · exact ⟨o2, e2, fun v q => by rw [d2] at q; cases q⟩
  keep := fun i h h' S k => by
    obtain ⟨⟨slot, f, hs, hz⟩, hTI, ⟨x, y, hTO⟩, h1, h2⟩ := S
    exact ⟨⟨slot, f, hs, k z (by simp) _ hz⟩, k TI (by simp) _ hTI, ⟨x, y, k TO (by simp) _ hTO⟩, h1.at fun o q => k i1 (by simp) o q, h2.at fun o q => k i2 (by simp) o q⟩
  item := by
    rintro X rfl rfl rfl hc i pins s σ H E I hf S ⟨xs, ys, x, y, hqx, hqy, hx, hy⟩
    obtain ⟨us, ru, pu, _⟩ := I.tuple hqx
    obtain ⟨ws, rw', pw, _⟩ := I.tuple hqy
    obtain ⟨u, hu, rx⟩ := ru.get hx
    obtain ⟨v, hv, ry⟩ := rw'.get hy
    have lt5 : ∀ c ∈ [z, TI, TO, i1, i2], c < s.heap.objs.size := fun c hcm => by
      obtain ⟨⟨slot, f, _, hz⟩, hTI, ⟨_, _, hTO⟩, ⟨_, e1, _⟩, ⟨_, e2, _⟩⟩ := S
      rcases mem5.mp hcm with rfl | rfl | rfl | rfl | rfl
      · exact Heap.lt_size hz
      · exact Heap.lt_size hTI
      · exact Heap.lt_size hTO
      · exact Heap.lt_size e1
      · exact Heap.lt_size e2
    refine next_item D S pu pw (x := u) (y := v) (by simpa using hu) (by simpa using hv) fun g S' t k => ⟨_, rfl, wpAny_pure ?_⟩
    have new : ObjOk X.prog X.w (upd H s.heap.objs.size (.tup [x, y])) g s.heap.objs.size (.tup [x, y]) := ⟨by show 2 ≤ sizeLine; decide, [u, v], .cons rx (.cons ry .nil), _, t, rfl, _, rfl⟩
    have J : Inv X pins σ (upd H s.heap.objs.size (.tup [x, y])) { s with heap := g } :=
      I.turnedNew (t' := s.toks) (ch := [z, TI, TO, i1, i2]) (fun c o hb q => k c o (fun e => hb (by simp [e])) (fun e => hb (by simp [e])) (fun e => hb (by simp [e])) (fun e => hb (by simp [e])) q) hf (Nat.le_refl _) new
    refine ⟨.ref s.heap.objs.size, _, J, rfl, ⟨_, x, y, rfl, I.hok.fresh (Nat.le_refl _), rfl, fun l hl => by rw [I.tuple_inj hl hqx]; exact hx, fun l hl => by rw [I.tuple_inj hl hqy]; exact hy⟩, S', fun c hcm => ?_⟩
    rw [upd_ne (Nat.ne_of_lt (lt5 c hcm))]
    exact (hf c hcm).1
  done := by
    rintro X rfl rfl rfl hc i pins s σ H E I hf S ⟨xs, ys, hqx, hqy, hend⟩
    obtain ⟨us, ru, pu, _⟩ := I.tuple hqx
    obtain ⟨ws, rw', pw, _⟩ := I.tuple hqy
    have l1 := ru.length
    have l2 := rw'.length
    have he : us.toArray[i]? = none ∨ ws.toArray[i]? = none := hend.elim (fun q => .inl (by simp; omega)) fun q => .inr (by simp; omega)
    exact next_end (I.ok.hd hc) D S pu pw he fun g k => ⟨rfl, I.turnedL (t' := s.toks) (ch := [z, TI, TO, i1, i2]) (fun c o hb q => k c o (fun e => hb (by simp [e])) (fun e => hb (by simp [e])) (fun e => hb (by simp [e])) (fun e => hb (by simp [e])) q) hf⟩
  self := fun A i s Q E S h => by
    obtain ⟨slot, f, _, hz⟩ := S.rc
    have ty : s.TypeIs (.ref z) "zip" := ⟨_, hz, rfl⟩
    refine wpAny_pyIter_slot ty F.slot_zip_iter (wpAny_call_entry F.slot_zip_iter ty F.entry_zip_iter ?_ (F.args_zip_iter_1 _))
    show wpAny _ _ (ret (.ref z)) _ _ s
    exact wpAny_pure ⟨_, rfl, "zip", _, ty, F.slot_zip_next.lookup, h⟩
def iZip1 (K : PySem.W.Frag) (ta : TA) : L2.TI := fun σ H R => ta σ H fun vs H1 => ∃ a b xs ys, vs = [.ref a, .ref b] ∧ SqT K H1 a xs ∧ SqT K H1 b ys ∧ R (RZ.ItzT K a b) H1
theorem pi_zip1 {X : Cx} {K : PySem.W.Frag} {e e2 : Expr} {ta : TA} {p p2 pos np : Pos} {nm : Str} (hm : X.mg "zip" = none) (ha : PA X [e, .Starred e2 p2] ta) (hg : Gl X "zip" := by rfl)
    (hs : starEach [e, .Starred e2 p2] X.env = (false, eval e X.env) :: starEach [.Starred e2 p2] X.env := by rfl) (hst : (backTo pos (starEach [.Starred e2 p2] X.env)).any (·.1) = true := by rfl) (ek : X.K = K := by rfl) :
    PI X (.Name nm np) (.Call (.Name "zip" p) [e, .Starred e2 p2] [] pos) (iZip1 K ta) := by
  subst ek
  refine ⟨fun pins s σ H R I h => Call_ (ld_blt I hg hm PyProof.Rows.boot_zip ?_)⟩
  have run := ha.run pos pins s σ H _ I h
  rw [hs] at run ⊢
  refine PySem.W.ks_call (P := fun _ => True) (by show (false || (backTo pos (starEach [.Starred e2 p2] X.env)).any (·.1)) = true; rw [hst]; rfl) (fun _ _ => ⟨_, .inr (.inl rfl), PySem.W.Looks.of_pure rfl⟩) (Calls.evalArgs_plain (thn run fun us s1 ⟨vs, H1, I1, r1, a, b, xs, ys, ev, hx, hy, q⟩ => ⟨trivial, ?_⟩))
  subst ev
  obtain ⟨_, _, rfl, r2, r3⟩ := StX.vals_split (ws := [V.ref a]) (rest := [V.ref b]) r1
  obtain ⟨u, rfl, hu⟩ := r2.one
  obtain ⟨v, rfl, hv⟩ := r3.one
  cases hu
  cases hv
  obtain ⟨is1, rv1, p1, _⟩ := I1.tuple hx
  obtain ⟨is2, rv2, p2, _⟩ := I1.tuple hy
  obtain ⟨o1, ho1, _⟩ := id p1
  obtain ⟨o2, ho2, _⟩ := id p2
  refine RZ.call_zipT (show s1.heap.IsTuple a is1.toArray from p1) (show s1.heap.IsTuple b is2.toArray from p2) fun g hz hTI hTO h1 h2 _ hk => wpAny_pyIter_zip hz ?_
  have J : Inv X pins σ H1 { s1 with heap := g } := I1.kept (t' := s1.toks) hk
  refine ⟨s1.heap.objs.size + 4, _, _, _, H1, rfl, J, turn_kept (PySem.W.ktu_apart s1.heap.objs.size a b (Heap.lt_size ho1) (Heap.lt_size ho2)), ⟨⟨_, _, .inl rfl, hz⟩, hTI, ⟨_, _, hTO⟩, h1, h2⟩, fun c hc => ?_, q⟩
  have hle : s1.heap.objs.size ≤ c := by
    rcases mem5.mp hc with k | k | k | k | k <;> rw [k] <;> first | exact Nat.le_refl _ | exact Nat.le_add_right _ _
  exact I1.fpOk hle (I1.hok.fresh hle)
end FZ
namespace FM
open PySem PySem.Spec PyProof.Rows L2
open Evl (Ex EvT Ev)
/-- the pairs of two tuples of one kind, each a tuple -/
theorem i_zip1 {K : PySem.W.Frag} {σ : L2.St} {H : Hp} {ta : TA} {β : Type} {R : Rdr β} [Mono R] {xs ys : List β} (h : EvAs ta σ H (fun vs H2 => ∃ v w, vs = [v, w] ∧ rTup R H2 v xs ∧ rTup R H2 w ys)) :
    EvI (FZ.iZip1 K ta) σ H (xs.zip ys).length (ith (rTup R) ((xs.zip ys).map fun z => [z.1, z.2])) := fun H1 e Q q =>
  h H1 e _ fun vs H2 e2 ⟨v, w, evs, ⟨a, us, e3, ha, ra⟩, ⟨b, ws, e4, hb, rb⟩⟩ => by
    subst evs e3 e4
    have hl := List.length_zip (l₁ := xs) (l₂ := ys)
    refine ⟨a, b, us, ws, rfl, .inl (.inl ha), .inl (.inl hb), q _ H2 e2 ⟨fun i H3 hi e3 => ?_, fun i H3 x H4 hi e3 y => ?_, fun H3 e3 => ?_⟩⟩
    · have h1 : i < us.length := by rw [plen ra]; omega
      have h2 : i < ws.length := by rw [plen rb]; omega
      exact ⟨us, ws, us[i], ws[i], .inl (.inl (e3 a _ ha)), .inl (.inl (e3 b _ hb)), List.getElem?_eq_getElem h1, List.getElem?_eq_getElem h2⟩
    · obtain ⟨T, x1, y1, rfl, hT, rfl, k1, k2⟩ := y
      obtain ⟨z1, hz1, r1⟩ := pget ra (k1 us (.inl (.inl (e3 a _ ha))))
      obtain ⟨z2, hz2, r2⟩ := pget rb (k2 ws (.inl (.inl (e3 b _ hb))))
      have hz : (xs.zip ys)[i]? = some (z1, z2) := by rw [List.getElem?_zip_eq_some]; exact ⟨hz1, hz2⟩
      exact ⟨Ex.new hT, [z1, z2], by rw [List.getElem?_map, hz]; rfl, T, _, rfl, upd_same, .cons (up (e3.trans (Ex.new hT)) r1) (.cons (up (e3.trans (Ex.new hT)) r2) .nil)⟩
    · refine ⟨us, ws, .inl (.inl (e3 a _ ha)), .inl (.inl (e3 b _ hb)), ?_⟩
      rw [plen ra, plen rb]
      omega
end FM

/-! ## FPoint -/
set_option Elab.async false
set_option linter.all false
set_option maxRecDepth 100000
set_option maxHeartbeats 2000000
/-! Points: the program's defs over them. -/
namespace FM
open PySem PySem.Spec PyProof.Rows L2
open Evl (Ex EvT Ev)
section
variable {P : Program} {w : World} {K : PySem.W.Frag} {mg : Str → Option Value} {base : Heap}
/-- a count of parameters -/
abbrev CntI := {m : Nat // 1 ≤ m ∧ m ≤ 3}
abbrev sp_count : Sp := spOf (fun (i : CntI) => a1 rInt (i.1 : Int)) fun _ => is rBool true
theorem ok_is_count (T : Txt K mg) : GFn P w K mg base "is_count" 1 sp_count := by
  obtain ⟨fd, F⟩ := T.d_is_count
  have sc := (C8.fnScope_by (N := ["value"]) (P := ["value"]) (sc := defScope st_is_count) (by kernel_rfl))
  refine gfn T.g_is_count F sc (F.bindsN fun _ _ _ _ _ _ us hl => match us, hl with | [_], _ => rfl) (fun i vs H ⟨_, e, _⟩ => by rw [e]; rfl) ?_
  intro cdv A outer s H E ⟨m, h1, h3⟩ vs Q hr ⟨v1, e, r1⟩ hq
  have nd := sc.nd
  subst e
  refine ⟨_, (PSs.nox (pss_one (ps_ret (pe_and (pe_callB (k_isi K) (by rfl) T.isinstance (by decide +kernel) (pa_cons (pv 0) (pa_cons (pe_bltn (v := .ty "int") (by rfl) T.int (by decide +kernel) rfl) pa_nil))) (pe_and (pe_not (pe_callB (k_isi K) (by rfl) T.isinstance (by decide +kernel) (pa_cons (pv 0) (pa_cons (pe_bltn (v := .ty "bool") (by rfl) T.bool (by decide +kernel) rfl) pa_nil)))) (pe_one (pe_chain op_le op_le pe_int (pv 0) (pgI T.g_MAX_PARAMETERS)))))))), ?_⟩
  refine r_ret (P := is rBool true) (Ev.b (b := true) ?_) hq
  have e : (true && ((!false) && (decide ((1 : Int) ≤ (m : Int)) && decide ((m : Int) ≤ 3)))) = true := by
    have a : decide ((1 : Int) ≤ (m : Int)) = true := decide_eq_true (by omega)
    have b : decide ((m : Int) ≤ 3) = true := decide_eq_true (by omega)
    rw [a, b]
    rfl
  refine Evl.ev_is (Evl.ev_andV (isi_i (int_ (var rfl r1))) fun _ => Evl.ev_andV (Evl.ev_notV (isi_ib (int_ (var rfl r1)))) fun _ => chainI (g := fun i j => decide (i ≤ j)) (g' := fun i j => decide (i ≤ j)) Evl.ev_c (int_ (var rfl r1)) Evl.ev_c) (congrArg V.bl e)
structure PtI where
  (rows : Rows Str) (m : Nat) (p : List Str) (hp : Pt (nms rows) m p) (h1 : 1 ≤ m) (h3 : m ≤ 3)
abbrev sp_is_point : Sp := spOf (fun (i : PtI) => a2 (rH K) rPt i.rows i.p) fun _ => is rBool true
abbrev sp_req_point : Sp := spOf (fun (i : PtI) => a2 (rH K) rPt i.rows i.p) fun _ => isNon
theorem ok_is_point (T : Txt K mg) (G_is_count : GFn P w K mg base "is_count" 1 sp_count) (G_Hierarchy_has_class : GMt P w K mg base "Hierarchy" "has_class" 1 (sp_has (K := K))) : GFn P w K mg base "is_point" 2 (sp_is_point (K := K)) := by
  obtain ⟨fd, F⟩ := T.d_is_point
  have sc := (C8.fnScope_by (N := ["hierarchy", "value", "name"]) (P := ["hierarchy", "value"]) (sc := defScope st_is_point) (by kernel_rfl))
  refine gfn T.g_is_point F sc (F.bindsN fun _ _ _ _ _ _ us hl => match us, hl with | [_, _], _ => rfl) (fun i vs H ⟨_, _, e, _⟩ => by rw [e]; rfl) ?_
  intro cdv A outer s H E ⟨rows, m, p, hp, h1, h3⟩ vs Q hr ⟨v1, v2, e, r1, r2⟩ hq
  have nd := sc.nd
  subst e
  refine ⟨_, (PSs.nox (pss_cons (ps_if (PW.pt (pw_or (pt_not (pt_val (pe_callB (k_isi K) (by rfl) T.isinstance (by decide +kernel) (pa_cons (pv 1) (pa_cons (pe_bltn (v := .ty "tuple") (by rfl) T.tuple (by decide +kernel) rfl) pa_nil))))) (pw_or1 (pt_not (pt_val (kcall G_is_count hr (pa_cons (pe_callB (k_len K) (by rfl) T.len (by decide +kernel) (pa_cons (pv 1) pa_nil)) pa_nil))))))) (pss_one (ps_ret pe_bl)) pss_nil)
      (pss_one (ps_ret (pe_callB (k_all K) (by rfl) T.all (by decide +kernel) (pa_cons (pe_lc (own := [("name", 2)]) (by rfl) nd (k_pit K (pv 1)) (blkOk_by (by kernel_rfl)) (fun _ _ _ _ _ => (pg_name (i := 2) nd (by rfl) (by first | exact Or.inl rfl | exact Or.inr rfl))) (fun _ _ _ _ _ => pts_nil) (fun _ _ _ _ _ => (kmeth G_Hierarchy_has_class hr (pv 0) (pa_cons (pv 2) pa_nil)))) pa_nil)))))), ?_⟩
  have hl : p.length = m := hp.1
  refine r_not (Evl.et_or (Evl.et_not (Evl.et_B (isi_t (var rfl (rTup.r r2))))) fun _ => Evl.et_not (Evl.et_B (bool_ (call_ (P := fun (_ : CntI) => is rBool true) ⟨p.length, by omega, by omega⟩ (ea1 (R := rInt) (Ev.i (len_t (var rfl (rTup.r r2))))))))) fun H1 e1 => ?_
  refine r_ret (P := is rBool true) ?_ fun v H2 e2 z => hq v H2 (e1.trans e2) z
  have e : (p.all fun x => isIn x (nms rows)) = true := List.all_eq_true.mpr fun x hx => isIn_iff.mpr (hp.2 x hx)
  rw [← e]
  refine Ev.b (all_map (lcD (R := rStr) (fun _ => true) (fun x => isIn x (nms rows)) gm_name (i_tup (var rfl (rTup.r (up e1 r2)))) (by omega) ?_))
  intro j x v H2 hx e2 rx
  exact ⟨Ex.refl _, rfl, et_yes, fun _ => Ev.flat (bool_ (mcall_ (P := fun (i : Rows Str × Str) => is rBool (isIn i.2 (nms i.1))) (R := rH K) (rows, x) (var rfl (up (e1.trans e2) r1)) (rH_ob fun _ _ => rfl) (ea1 (var (R := rStr) rfl rx)) m1))⟩
theorem point_ {σ : L2.St} {H : Hp} {ta tb : TE} {rows : Rows Str} {m : Nat} {p : List Str} (hp : Pt (nms rows) m p) (h1 : 1 ≤ m) (h3 : m ≤ 3) (a : EvP ta σ H (is (rH K) rows)) (b : EvP tb σ H (is rPt p)) :
    Ev (tCall (sp_is_point (K := K)) [] E0 (tCons ta (tCons tb tNil))) σ H (.bl true) := bool_ (call_ (P := fun (_ : PtI) => is rBool true) ⟨rows, m, p, hp, h1, h3⟩ (ea2 a b))
theorem ok_require_point_points (T : Txt K mg) (G_is_point : GFn P w K mg base "is_point" 2 (sp_is_point (K := K))) : GFn P w K mg base "require_point_points" 3 (sp_req_point (K := K)) := by
  obtain ⟨fd, F⟩ := T.d_require_point_points
  have sc := (C8.fnScope_by (N := ["hierarchy", "value"]) (P := ["hierarchy", "value"]) (sc := defScope st_require_point_points) (by kernel_rfl))
  refine gfn T.g_require_point_points F sc (F.bindsN fun _ _ _ _ _ _ us hl => match us, hl with | [_, _], _ => rfl) (fun i vs H ⟨_, _, e, _⟩ => by rw [e]; rfl) ?_
  intro cdv A outer s H E ⟨rows, m, p, hp, h1, h3⟩ vs Q hr ⟨v1, v2, e, r1, r2⟩ hq
  have nd := sc.nd
  subst e
  refine ⟨_, (PSs.nox (pss_one (ps_if (pt_not (pt_val (kcall G_is_point hr (pa_cons (pv 0) (pa_cons (pv 1) pa_nil))))) (pss_one ps_never) pss_nil))), ?_⟩
  exact r_notL (Evl.et_not (Evl.et_B (point_ hp h1 h3 (var rfl r1) (var rfl r2)))) fun H1 e1 => hq _ _ e1 rfl
/-- two points of one length -/
structure TwI where
  (rows : Rows Str) (m : Nat) (p q : List Str) (hp : Pt (nms rows) m p) (hq : Pt (nms rows) m q) (h1 : 1 ≤ m) (h3 : m ≤ 3) (ok : Rok rows)
/-- the second in a tuple of its own -/
abbrev aStar (K : PySem.W.Frag) (i : TwI) : List V → Hp → Prop := a3 (rH K) rPt (rTup rPt) i.rows i.p [i.q]
abbrev aPlain (K : PySem.W.Frag) (i : TwI) : List V → Hp → Prop := a3 (rH K) rPt rPt i.rows i.p i.q
theorem plain_star {K : PySem.W.Frag} (i : TwI) (vs : List V) (H : Hp) (h : aPlain K i vs H) : ∃ ws v, vs = ws ++ [v] ∧ ws.length = 2 ∧ ∀ p, H p = none → aStar K i (ws ++ [.ref p]) (upd H p (.tup [v])) := by
  obtain ⟨u, v, w, e, r1, r2, r3⟩ := h
  exact ⟨[u, v], w, e, rfl, fun p hp => ⟨u, v, .ref p, rfl, up (Ex.new hp) r1, up (Ex.new hp) r2, p, [w], rfl, upd_same, .cons (up (Ex.new hp) r3) .nil⟩⟩
abbrev sp_alike : Sp := spOf (aPlain K) fun _ => isNon
theorem ok_require_alike_points (T : Txt K mg) (G_is_point : GFn P w K mg base "is_point" 2 (sp_is_point (K := K))) (G_require_point_points : GFn P w K mg base "require_point_points" 3 (sp_req_point (K := K))) : GFnR P w K mg base "require_alike_points" 4 (sp_alike (K := K)) := by
  obtain ⟨fd, F⟩ := T.d_require_alike_points
  have sc := (C8.fnScope_by (N := ["hierarchy", "first", "others", "other"]) (P := ["hierarchy", "first", "others"]) (sc := defScope st_require_alike_points) (by kernel_rfl))
  refine gfnS (A := aStar K) (ps := ["hierarchy", "first"]) (pv := "others") T.g_require_alike_points F sc (fun _ _ _ _ _ _ us r hl => match us, hl with | [_, _], _ => rfl) (fun _ => inferInstance) (fun i vs H h => plain_star i vs H h) ?_
  intro cdv A outer s H E ⟨rows, m, p, q, hp, hq', h1, h3, ok⟩ vs Q hr ⟨v1, v2, v3, e, r1, r2, r3⟩ hq
  have nd := sc.nd
  subst e
  refine ⟨_, (PSs.nox (pss_cons (ps_expr (kcall G_require_point_points hr (pa_cons (pv 0) (pa_cons (pv 1) pa_nil))))
      (pss_one (ps_for PassesOwn.never (by rfl) (k_pit K (pv 2)) (pg_name (i := 3) nd (by rfl) (by first | exact Or.inl rfl | exact Or.inr rfl)) (pss_one (ps_if (PW.pt (pw_or (pt_not (pt_val (kcall G_is_point hr (pa_cons (pv 0) (pa_cons (pv 3) pa_nil))))) (pw_or1 (pt_cmpR op_ne (pe_callB (k_len K) (by rfl) T.len (by decide +kernel) (pa_cons (pv 3) pa_nil)) (pe_callB (k_len K) (by rfl) T.len (by decide +kernel) (pa_cons (pv 1) pa_nil)) (nomark _))))) (pss_one ps_never) pss_nil)))))), ?_⟩
  refine sq (r_drop (call_ (P := fun (_ : PtI) => isNon) ⟨rows, m, p, hp, h1, h3⟩ (ea2 (var (R := rH K) rfl r1) (var rfl r2))) fun _ H1 e1 _ => ?_)
  refine r_for (H := H) (j_tup (R := rPt) (var rfl (rTup.r r3))) e1 (fun j σ' H' => ∃ u, σ' = [some v1, some v2, some v3, u]) (fun _ _ => ⟨_, rfl⟩) (fun Hn en _ j σ' H' hj ⟨u, eσ⟩ eh v4 H3 e3 ⟨x, hx, rx⟩ => ?_) fun σ' H' ⟨u, eσ⟩ eh => hq _ _ eh rfl
  subst eσ
  have hxq : x = q := by
    cases j with
    | zero => simpa using hx.symm
    | succ j => simp at hx
  subst hxq
  have e03 := (en.trans eh).trans e3
  refine r_notL (Evl.et_is (Evl.et_or (Evl.et_not (Evl.et_B (point_ hq' h1 h3 (var rfl (up e03 r1)) (var rfl rx)))) fun _ => Evl.et_test (Evl.ev_op (len_t (var rfl (rTup.r rx))) (len_t (var rfl (rTup.r (up e03 r2)))) (Evl.rv_ne rfl))) ?_) fun H4 e4 => ⟨⟨_, rfl⟩, (eh.trans e3).trans e4⟩
  rw [hp.1, hq'.1]
  simp
abbrev sp_lies : Sp := spOf (aPlain K) fun i => is rBool (pLe (leOf i.rows) i.p i.q)
theorem ok_lies_at_or_below (T : Txt K mg) (G_Hierarchy_is_at_or_below : GMt P w K mg base "Hierarchy" "is_at_or_below" 3 (sp_below (K := K))) : GFn P w K mg base "lies_at_or_below" 4 (sp_lies (K := K)) := by
  obtain ⟨fd, F⟩ := T.d_lies_at_or_below
  have sc := (C8.fnScope_by (N := ["hierarchy", "first", "second", "name", "other"]) (P := ["hierarchy", "first", "second"]) (sc := defScope st_lies_at_or_below) (by kernel_rfl))
  refine gfn T.g_lies_at_or_below F sc (F.bindsN fun _ _ _ _ _ _ us hl => match us, hl with | [_, _, _], _ => rfl) (fun i vs H ⟨_, _, _, e, _⟩ => by rw [e]; rfl) ?_
  intro cdv A outer s H E ⟨rows, m, p, q, hp, hq', h1, h3, ok⟩ vs Q hr ⟨v1, v2, v3, e, r1, r2, r3⟩ hq
  have nd := sc.nd
  subst e
  refine ⟨_, (PSs.nox (pss_one (ps_ret (pe_callB (k_all K) (by rfl) T.all (by decide +kernel) (pa_cons (pe_lc (own := [("name", 3), ("other", 4)]) (by rfl) nd (k_zip K T.zip (pa_cons (pv 1) (pa_cons (pv 2) pa_nil))) (blkOk_by (by kernel_rfl)) (fun _ _ _ _ _ => (k_gtup K (n := 2) (pgs_cons (pg_name (i := 3) nd (by rfl) (by first | exact Or.inl rfl | exact Or.inr rfl)) (pgs_cons (pg_name (i := 4) nd (by rfl) (by first | exact Or.inl rfl | exact Or.inr rfl)) pgs_nil)))) (fun _ _ _ _ _ => pts_nil) (fun _ _ _ _ _ => (kmeth G_Hierarchy_is_at_or_below hr (pv 0) (pa_cons (pv 3) (pa_cons (pv 4) pa_nil))))) pa_nil))))), ?_⟩
  refine r_ret (Ev.b (all_map (lcD (R := rPair rStr rStr) (xs := p.zip q) (fun _ => true) (fun z => leOf rows z.1 z.2) (gm_tup (gm_cons gm_name (gm_cons gm_name gm_nil))) (i_zip (ea2 (var rfl r2) (var rfl r3)))
    (by have := hp.1; have := List.length_zip (l₁ := p) (l₂ := q); omega) ?_))) hq
  rintro j ⟨x, y⟩ v H1 hx e ⟨a, x1, y1, rfl, ha, rx, ry⟩
  refine ⟨a, _, rfl, .inl (.inl ha), rfl, x1, _, rfl, y1, _, rfl, rfl, Ex.refl _, rfl, et_yes, fun _ => ?_⟩
  have hz := List.of_mem_zip (List.mem_of_getElem? hx)
  exact Ev.flat (bool_ (mcall_ (P := fun (i : BelI) => is rBool (leOf i.1.1 i.1.2.1 i.1.2.2)) (R := rH K) ⟨(rows, x, y), hp.2 x hz.1, hq'.2 y hz.2⟩ (var rfl (up e r1)) (rH_ob fun _ _ => rfl) (ea2 (var (R := rStr) rfl rx) (var (R := rStr) rfl ry)) m2))
theorem lies_ {σ : L2.St} {H : Hp} {ta tb tc : TE} {rows : Rows Str} {m : Nat} {p q : List Str} (hp : Pt (nms rows) m p) (hq : Pt (nms rows) m q) (h1 : 1 ≤ m) (h3 : m ≤ 3) (ok : Rok rows) (a : EvP ta σ H (is (rH K) rows)) (b : EvP tb σ H (is rPt p)) (c : EvP tc σ H (is rPt q)) :
    Ev (tCall (sp_lies (K := K)) [] E0 (tCons ta (tCons tb (tCons tc tNil)))) σ H (.bl (pLe (leOf rows) p q)) := bool_ (call_ (P := fun (i : TwI) => is rBool (pLe (leOf i.rows) i.p i.q)) ⟨rows, m, p, q, hp, hq, h1, h3, ok⟩ (ea3 a b c))
/-- points of one length -/
structure PsI where
  (rows : Rows Str) (m : Nat) (ps : List (List Str)) (hp : ∀ p ∈ ps, Pt (nms rows) m p) (h1 : 1 ≤ m) (h3 : m ≤ 3) (ok : Rok rows) (hl : ps.length ≤ 10000)
abbrev sp_req_points : Sp := spOf (fun (i : PsI) => a2 (rH K) rPts i.rows i.ps) fun _ => isNon
theorem ok_require_points (T : Txt K mg) (G_is_point : GFn P w K mg base "is_point" 2 (sp_is_point (K := K))) : GFn P w K mg base "require_points" 3 (sp_req_points (K := K)) := by
  obtain ⟨fd, F⟩ := T.d_require_points
  have sc := (C8.fnScope_by (N := ["hierarchy", "points", "position", "point"]) (P := ["hierarchy", "points"]) (sc := defScope st_require_points) (by kernel_rfl))
  refine gfn T.g_require_points F sc (F.bindsN fun _ _ _ _ _ _ us hl => match us, hl with | [_, _], _ => rfl) (fun i vs H ⟨_, _, e, _⟩ => by rw [e]; rfl) ?_
  intro cdv A outer s H E ⟨rows, m, ps, hp, h1, h3, ok, hl⟩ vs Q hr ⟨v1, v2, e, r1, r2⟩ hq
  have nd := sc.nd
  subst e
  refine ⟨_, (PSs.nox (pss_cons (ps_if (pt_not (pt_val (pe_callB (k_isi K) (by rfl) T.isinstance (by decide +kernel) (pa_cons (pv 1) (pa_cons (pe_bltn (v := .ty "list") (by rfl) T.list (by decide +kernel) rfl) pa_nil))))) (pss_one ps_never) pss_nil)
      (pss_one (ps_for PassesOwn.never (by rfl) (k_enum K T.enumerate (pa_cons (pv 1) pa_nil)) (k_gtup K (n := 2) (pgs_cons (pg_name (i := 2) nd (by rfl) (by first | exact Or.inl rfl | exact Or.inr rfl)) (pgs_cons (pg_name (i := 3) nd (by rfl) (by first | exact Or.inl rfl | exact Or.inr rfl)) pgs_nil))) (pss_one (ps_if (PW.pt (pw_or (pt_not (pt_val (kcall G_is_point hr (pa_cons (pv 0) (pa_cons (pv 3) pa_nil))))) (pw_or1 (pt_cmpR op_ne (pe_callB (k_len K) (by rfl) T.len (by decide +kernel) (pa_cons (pv 3) pa_nil)) (pe_callB (k_len K) (by rfl) T.len (by decide +kernel) (pa_cons (pe_ix (k_ixL K) (pv 1) pe_int (by intro _ _; rfl)) pa_nil)) (nomark _))))) (pss_one ps_never) pss_nil)))))), ?_⟩
  refine r_not (Evl.et_not (Evl.et_B (isi_l (var rfl r2)))) fun H1 e1 => ?_
  refine r_for (H := H) (j_enum (R := rPt) (Evl.ev_var rfl) r2) e1 (fun j σ' H' => ∃ u w, σ' = [some v1, some v2, u, w]) (fun _ _ => ⟨_, _, rfl⟩) (fun Hn en _ j σ' H' hj ⟨u, w, eσ⟩ eh v4 H3 e3 ⟨x, hx, a, y1, y2, ev, ha, _, ry⟩ => ?_) fun σ' H' _ eh => hq _ _ eh rfl
  subst eσ ev
  refine ⟨a, _, rfl, .inl (.inl ha), rfl, y1, _, rfl, y2, _, rfl, rfl, ?_⟩
  have e03 := (en.trans eh).trans e3
  have hxp := hp x (List.mem_of_getElem? hx)
  obtain ⟨p0, h0⟩ : ∃ p0, ps[0]? = some p0 := ⟨_, List.getElem?_eq_getElem (Nat.lt_of_le_of_lt (Nat.zero_le j) hj)⟩
  have h0p := hp p0 (List.mem_of_getElem? h0)
  refine r_notL (Evl.et_is (Evl.et_or (Evl.et_not (Evl.et_B (point_ hxp h1 h3 (var rfl (up e03 r1)) (var rfl ry)))) fun _ => Evl.et_test (Evl.ev_op (len_t (var rfl (rTup.r ry))) (len_t (EvP.tr (ixL (R := rPt) (j := 0) (var rfl (up e03 r2)) Evl.ev_c h0))) (Evl.rv_ne rfl))) ?_) fun H4 e4 => ⟨⟨_, _, rfl⟩, (eh.trans e3).trans e4⟩
  rw [h0p.1, hxp.1]
  simp
end
end FM

/-! ## FDc -/
set_option Elab.async false
set_option linter.all false
set_option maxRecDepth 100000
set_option maxHeartbeats 2000000
/-! A dict comprehension whose keys are tuples of texts or ints: one turn, the end of the walk, the whole. -/
namespace FD
open PySem PySem.Spec PyProof.Rows L2
/-- the dict D of a comprehension takes one more pair -/
theorem put {X : Cx} {pins : List (Addr × Obj)} {σ : L2.St} {H : Hp} {s : Shared} {E : Value → Shared → Prop} {D b : Addr} {kvs : List (List Key × V)} {k : List Key} {v : V} {r : Value} {Q : Unit → Shared → Prop} (hu : X.A.units + 1 < cLine) (I : Inv X pins σ H s)
    (hD : H D = some (.dT kvs)) (hb : H b = some (.tup (k.map kV))) (hl : kvs.length < sizeLine) (rv : RelV v r) (h : ∀ z, Inv X pins σ (upd H D (.dT (putK kvs k v))) z → Q () z) : wpAny (model X.prog X.w) X.A (dictSet D (.ref b) r) Q E s := by
  obtain ⟨hz, hs, xs, kt, dd⟩ := dt_of I.hok hD
  have hx : xs.length ≤ sizeLine := Nat.le_trans (Nat.le_of_eq (Paired.length kt).symm) hz
  have hp : (putK kvs k v).length ≤ sizeLine := Nat.le_trans (length_putK kvs k v) hl
  refine wpAny_dictSet_heap (hsz := hx) (show X.A.units < cLine by omega) (key_of I.hok hb) dd fun g dg m => h _ ?_
  obtain ⟨o, es, ep, ho, e1, e2, e3, _, e5⟩ := dg
  refine d_write I (by rw [hD]; exact True.intro) m ⟨o, ho⟩ ⟨hp, hs, _, (kt.put k hb rv).keeps fun c ys ec => ?_, o, es, ep, ho, e1, e2, e3, e5⟩
  rw [upd_ne (ne_of ec hD (fun z => nomatch z))]
  exact ec
/-- {k: v for target in iter}: D the new dict -/
def tDcT (wi : L2.TI) (g : TG) (tk tv : TE) (vs : List Nat) : TE := fun σ H Q => wi σ H fun J H1 => ∀ D, H1 D = none → ∃ W : Nat → Nat → Hp → Prop, (∃ m, W 0 m (upd H1 D (.dT []))) ∧ ∀ i m H2, W i m H2 →
  (J.stop i H2 ∧ Q (.ref D) H2) ∨ (J.go i H2 ∧ ∃ N : Hp → Prop, (∀ H', N H' → ∃ m', m' < m ∧ W (i + 1) m' H') ∧ ∀ x H3, J.yld i H2 x H3 → g x (wipe σ vs) H3 fun σ2 H4 => wipe σ2 vs = wipe σ vs ∧
    tk σ2 H4 fun y H5 => tv σ2 H5 fun u H6 => ∃ b kvs k, y = .ref b ∧ H6 b = some (.tup (k.map kV)) ∧ H6 D = some (.dT kvs) ∧ kvs.length < sizeLine ∧ N (upd H6 D (.dT (putK kvs k u))))
section
variable {B : Cx} {J : It} {fp : List Addr} {it D : Addr} {tn : Nat → Heap → Prop} {tg ke ve : Expr} {g : TG} {tk tv : TE} {vs : List Nat} {σ0 : L2.St}
/-- the records of the walk may turn, nobody else knows them -/
theorem own_fp {σ' : L2.St} {H' : Hp} {z : Shared} (hex : ∀ b ∈ fp, b ∈ B.ex) (hp : B.pn = []) (I : Inv B [] σ' H' z) (n : ∀ b ∈ fp, H' b = none) : ∀ b ∈ fp, FpOk B [] H' b := fun b hb => by
  obtain ⟨e1, e2⟩ := I.ok.exf b (hex b hb)
  refine ⟨n b hb, e1, I.ok.exfs b (hex b hb), .inl (hex b hb), fun x c k => e2 x c k, fun p q => ?_⟩
  rw [hp] at q
  cases q
/-- ahead of turn i -/
def At (B : Cx) (σ0 : L2.St) (tn : Nat → Heap → Prop) (fp : List Addr) (G : Hp → Prop) (i : Nat) (z : Shared) : Prop := ∃ H', Inv B [] σ0 H' z ∧ tn i z.heap ∧ (∀ b ∈ fp, H' b = none) ∧ G H'
theorem one_turn (hu : B.A.units + 1 < cLine) (hex : ∀ b ∈ fp, b ∈ B.ex) (hpn : B.pn = []) (hxe : B.xe = fun _ _ => False) (hc : B.calm = true) (T : Turn B.prog B.w B.K tg J fp it tn) (qg : PG B tg g) (qk : PE B ke tk) (qv : PE B ve tv) {i : Nat} {z : Shared} {H2 : Hp} {N : Hp → Prop}
    (I : Inv B [] σ0 H2 z) (st : tn i z.heap) (hn : ∀ b ∈ fp, H2 b = none) (go : J.go i H2)
    (mv : ∀ x H3, J.yld i H2 x H3 → g x σ0 H3 fun σ2 H4 => wipe σ2 vs = σ0 ∧ tk σ2 H4 fun y H5 => tv σ2 H5 fun u H6 => ∃ b kvs k, y = .ref b ∧ H6 b = some (.tup (k.map kV)) ∧ H6 D = some (.dT kvs) ∧ kvs.length < sizeLine ∧ N (upd H6 D (.dT (putK kvs k u)))) :
    wpAny (model B.prog B.w) B.A (pyNext (.ref it)) (fun r z1 => ∃ u, r = some u ∧ wpAny (model B.prog B.w) B.A (letOwnedTupleGo tg (.ref it) u) (fun _ z2 => wpAny (model B.prog B.w) B.A (assign tg B.env u) (fun _ z3 =>
      wpAny (model B.prog B.w) B.A (eval ke B.env) (fun kv z4 => wpAny (model B.prog B.w) B.A (eval ve B.env) (fun vv z5 => wpAny (model B.prog B.w) B.A (dictSet D kv vv) (fun _ z6 => At B σ0 tn fp N (i + 1) z6) (fun _ _ => False) z5) (fun _ _ => False) z4) (fun _ _ => False) z3) (fun _ _ => False) z2) (fun _ _ => False) z1) (fun _ _ => False) z := by
  have run_g := qg.run
  have run_k := qk.run
  have run_v := qv.run
  rw [hxe] at run_g run_k run_v
  refine thnF (T.item B rfl rfl rfl hc i [] z σ0 H2 (fun _ _ => False) I (own_fp hex hpn I hn) st go) fun r z1 ⟨u, hr, h1⟩ => ⟨u, hr, thnF h1 fun _ z2 ⟨x, H3, I3, rx, hy, st3, n3⟩ => ?_⟩
  have P3 := I3.pinned (own_fp hex hpn I3 n3) (T.obj _ _ st3)
  refine thnF (run_g _ z2 _ H3 x u _ P3 rx (mv x H3 hy)) fun _ z3 ⟨σ4, H4, I4, hw, q4⟩ => thnF (run_k _ z3 σ4 H4 _ I4 q4) fun kv z4 ⟨y, H5, I5, ry, q5⟩ => thnF (run_v _ z4 σ4 H5 _ I5 q5) fun vv z5 ⟨v, H6, I6, rv, b, kvs, k, ey, hb, hD, hl, nx⟩ => ?_
  subst ey
  cases (show kv = Value.ref b from ry)
  refine put hu I6 hD hb hl rv fun z6 I7 => ?_
  have still : ∀ c ∈ fp, ∀ o, z2.heap.get? c = some o → z6.heap.get? c = some o ∧ (upd H6 D (.dT (putK kvs k v))) c = none := fun c hcm o e => by
    obtain ⟨p1, p2, _⟩ := I7.pin (c, o) (List.mem_append_right _ (List.mem_append_right _ (mem_pinsAt hcm e)))
    exact ⟨p1, p2⟩
  have hlen : σ0.length = σ4.length := by rw [← hw, wipe_length]
  refine ⟨_, (I7.unpinned (pins := [])).weak hlen (fun j w e => ?_), T.keep _ _ _ st3 fun c hcm o e => (still c hcm o e).1, fun c hcm => ?_, nx⟩
  · rw [← hw] at e
    exact (wipe_some e).1
  · obtain ⟨o, e, _⟩ := T.obj _ _ st3 c hcm
    exact (still c hcm o e).2
end
section
variable {X : Cx} {ke ve tg iter : Expr} {scope : Scope} {own : List (Str × Nat)} {pos : Pos} {wi : L2.TI} {g : TG} {tk tv : TE}
/-- the block's frame at its begin -/
abbrev frame0 (X : Cx) (scope : Scope) (z : Shared) : Env := compEnvC scope (cellsFrom (z.heap.objs.size + 1) scope.names (cloFrom X.env.cells scope.names [])) z.heap.objs.size X.env
theorem pe_dcT (hc : X.calm = true) (hN : X.N.Nodup) (hu : X.A.units + 1 < cLine) (hi : PI X tg iter wi) (ok : BlkOk X.N X.env.scope scope own)
    (hg : ∀ (s : Shared) (H : Hp) (C : Addr) (cl : List (Str × Addr)) (fp : List Addr), PG (X.blk s H scope (compEnvC scope cl C X.env) fp) tg g)
    (hk : ∀ (s : Shared) (H : Hp) (C : Addr) (cl : List (Str × Addr)) (fp : List Addr), PE (X.blk s H scope (compEnvC scope cl C X.env) fp) ke tk)
    (hv : ∀ (s : Shared) (H : Hp) (C : Addr) (cl : List (Str × Addr)) (fp : List Addr), PE (X.blk s H scope (compEnvC scope cl C X.env) fp) ve tv) (hs : ∀ x, foldedSetIterable iter X.env x = pure x := by intro _; rfl) :
    PE X (.DictComp ke ve [⟨tg, iter, [], 0⟩] scope pos) (tDcT wi g tk tv (own.map (·.2))) := by
  refine ⟨fun pins s σ H Q I h => ?_⟩
  rw [arm_eval_DictComp]
  have known : ∀ y ∈ scope.names, y.2 = .free → ∃ c, X.env.cells.lookup y.1 = some c := fun y hy e => (ok.free y hy e).elim (fun k => I.ok.has _ (.inl k)) fun k => I.ok.has _ (.inr k)
  refine wpAny_comprehension_free (use := none) rfl hs (closure_ok known) ok.kind (fun y hy e => by rw [ok.uniq y hy, e]) (thn (hi.run pins s σ H _ I h) fun _ sa ha => thn ha fun iv sb ⟨it, fp, tn, J, Hb, ev, Ib, T, stb, fb, q⟩ => ?_)
  subst ev
  refine wpAny_newObj_type (newEnv_comp ?_)
  -- the new dict stands at D
  obtain ⟨D, hD⟩ : ∃ D, D = sb.heap.objs.size := ⟨_, rfl⟩
  obtain ⟨W, ⟨m0, w0⟩, each⟩ := q D (Ib.hok.fresh (Nat.le_of_eq hD.symm))
  obtain ⟨sc, hsc⟩ : ∃ sc : Shared, sc = { sb with heap := sb.heap.push { cls := .type "dict", data := .dict #[] } } := ⟨_, rfl⟩
  have kc : ∀ b o, sb.heap.get? b = some o → sc.heap.get? b = some o := fun b o e => by rw [hsc]; exact Heap.get?_push_of_some _ e
  have Ic : Inv X pins σ (upd Hb D (.dT [])) sc := by
    rw [hsc]
    refine Ib.laid (t' := sb.toks) (fun b o e => Heap.get?_push_of_some _ e) (Nat.le_of_eq hD.symm) ?_
    rw [hD]
    exact dt_empty sb.heap Ib.big
  have below : ∀ b ∈ fp, b < sb.heap.objs.size := fun b hb => let ⟨_, e, _⟩ := T.obj _ _ stb b hb; Heap.lt_size e
  have fc : ∀ b ∈ fp, FpOk X pins (upd Hb D (.dT [])) b ∧ b < sc.heap.objs.size := fun b hb => by
    refine ⟨⟨?_, (fb b hb).2⟩, by rw [hsc]; exact Nat.lt_of_lt_of_le (below b hb) (by rw [Heap.size_push]; exact Nat.le_succ _)⟩
    rw [upd_ne (by rw [hD]; exact Nat.ne_of_lt (below b hb))]
    exact (fb b hb).1
  have Id := block_start Ic ok hN fc
  have qg := hg sc (upd Hb D (.dT [])) sc.heap.objs.size (cellsFrom (sc.heap.objs.size + 1) scope.names (cloFrom X.env.cells scope.names [])) fp
  have qk := hk sc (upd Hb D (.dT [])) sc.heap.objs.size (cellsFrom (sc.heap.objs.size + 1) scope.names (cloFrom X.env.cells scope.names [])) fp
  have qv := hv sc (upd Hb D (.dT [])) sc.heap.objs.size (cellsFrom (sc.heap.objs.size + 1) scope.names (cloFrom X.env.cells scope.names [])) fp
  rw [← hD, ← hsc]
  show codeAny _ _ (.compStart (.DictComp ke ve [⟨tg, iter, [], 0⟩] scope pos) 0 (.ref it) (.ref D) (frame0 X scope sc)) (compPost (model X.prog X.w) X.A X.xe none (EP X pins σ Q) (.ref D) sc.heap.objs.size) { sc with heap := pushCells (sc.heap.push { cls := .type "dict", data := .dict #[] }) scope.names }
  obtain ⟨B, hB⟩ : ∃ B : Cx, B = X.blk sc (upd Hb D (.dT [])) scope (frame0 X scope sc) fp := ⟨_, rfl⟩
  have TB : Turn B.prog B.w B.K tg J fp it tn := by rw [hB]; exact T
  obtain ⟨sd, hsd⟩ : ∃ sd : Shared, sd = { sc with heap := pushCells (sc.heap.push { cls := .type "dict", data := .dict #[] }) scope.names } := ⟨_, rfl⟩
  have std : tn 0 sd.heap := T.keep _ _ _ stb fun b _ o e => by rw [hsd]; exact pushCells_keeps _ _ _ _ (Heap.get?_push_of_some _ (kc b o e))
  rw [← hsd]
  have Jd : Inv B [] (wipe σ (own.map (·.2))) (upd Hb D (.dT [])) sd := by rw [hB, hsd]; exact Id
  have qgB : PG B tg g := by rw [hB]; exact qg
  have qkB : PE B ke tk := by rw [hB]; exact qk
  have qvB : PE B ve tv := by rw [hB]; exact qv
  have rounds : codeAny (model X.prog X.w) X.A (.compLoop (.DictComp ke ve [⟨tg, iter, [], 0⟩] scope pos) 0 (.ref it) (.ref D) (frame0 X scope sc)) (compPost (model X.prog X.w) X.A X.xe none (EP X pins σ Q) (.ref D) sc.heap.objs.size) sd := by
    refine compLoop_anyD (fun n z => ∃ i, At B (wipe σ (own.map (·.2))) tn fp (W i n) i z) ?_ m0 ⟨0, _, Jd, std, fun b hb => (fc b hb).1.1, w0⟩
    rintro n z ⟨i, Hz, Iz, stz, nz, wz⟩
    rcases each i n Hz wz with ⟨stop, hq⟩ | ⟨go, N, hN2, mv⟩
    · have td := TB.done B rfl rfl rfl (by rw [hB]; exact hc) i [] z _ Hz (fun _ _ => False) Iz (own_fp (by rw [hB]; exact fun _ k => k) (by rw [hB]) Iz nz) stz stop
      rw [hB] at td
      refine thnF td fun r ze ⟨hr, Ie⟩ => ?_
      subst hr
      obtain ⟨m, hm, _⟩ := Ie.loc
      have hm : ze.heap.Ns sc.heap.objs.size m := hm
      have free : Hz sc.heap.objs.size = none := Ie.free
      have If : Inv X pins σ Hz ze := Ic.call' (ch := fp) Ie.os Ie.base Ie.hok Ie.bare fun b hb => let f := (fc b hb).1; ⟨f.2.2.2.1, f.2.1, f.2.2.2.2.1, f.2.2.2.2.2⟩
      obtain ⟨f0, f1, f2, f3, f4, f5⟩ := Ic.fpOk (Nat.le_refl _) free
      exact ⟨m, hm, fun h2 sb2 => ⟨.ref D, Hz, If.turned (t' := ze.toks) (fun b o hb e => (sb2.2 b hb).trans e) f0 f1 f3 f4 f5, rfl, hq⟩⟩
    · have one := one_turn (B := B) (D := D) (vs := own.map (·.2)) (N := N) (by rw [hB]; exact hu) (by rw [hB]; exact fun _ k => k) (by rw [hB]) (by rw [hB]) (by rw [hB]; exact hc) TB qgB qkB qvB Iz stz nz go mv
      have fin : ∀ zz, At B (wipe σ (own.map (·.2))) tn fp N (i + 1) zz → ∃ m, m < n ∧ ∃ i, At B (wipe σ (own.map (·.2))) tn fp (W i m) i zz := fun zz ⟨Hy, a1, a2, a3, a4⟩ => let ⟨m', l, w'⟩ := hN2 Hy a4; ⟨m', l, i + 1, Hy, a1, a2, a3, w'⟩
      rw [hB] at one fin ⊢
      exact thnF one fun r z1 ⟨u, hr, h1⟩ => by
        subst hr
        exact thnF h1 fun _ z2 h2 => thnF h2 fun _ z3 h3 => wpAny_tests_nil (thnF h3 fun kv z4 h4 => thnF h4 fun vv z5 h5 => thnF h5 fun _ z6 h6 => fin z6 h6)
  exact codeAny_compStart_dict rounds (T.self X.A 0 _ _ _ std rounds)
end
end FD

/-! ## FSort -/
set_option Elab.async false
set_option linter.all false
set_option maxRecDepth 100000
set_option maxHeartbeats 2000000
/-! sorted(d), d a dict whose keys are tuples of ints. -/
namespace FSo
open PySem PySem.Spec PyProof.Rows L2
def kI (l : List Int) : List Key := l.map Sum.inl
theorem kI_kV (l : List Int) : (kI l).map kV = l.map V.int := by unfold kI; rw [List.map_map]; rfl
def tupI (l : List Int) : PyData := .tuple (l.map .int)
theorem reads_ints {h : Heap} : ∀ {l : List Int} {us : List Value}, Vals (l.map V.int) us → ReadsAll h us (l.map .int) []
  | [], _, .nil => .nil
  | i :: l, _, .cons ⟨t, e⟩ r => by
    subst e
    exact ReadsAll.cons (as := []) (.int i t) (reads_ints r)
theorem reads_tup {P : Program} {w : World} {H : Hp} {h : Heap} {b : Addr} {l : List Int} (ok : ObjOk P w H h b (.tup (l.map V.int))) : Reads h (.ref b) (tupI l) [] := by
  obtain ⟨_, us, r, o, ho, hc, n, hd⟩ := ok
  exact .tuple ho hc hd (by simpa using reads_ints r)
theorem le_ints (a b : List Int × Addr) : PySem.W.dataLe false (fun z : List Int × Addr => tupI z.1) a b = decide (a.1 ≤ b.1) := by
  show (!PySem.W.dataLt (.tuple (b.1.map .int)) (.tuple (a.1.map .int))) = _
  rw [PySem.W.dataLt_tuple]
  show (!PySem.W.rowLt (b.1.map .int) (a.1.map .int)) = _
  rw [PySem.W.dataLt_ints]
  by_cases h : b.1 < a.1
  · have h2 : ¬ a.1 ≤ b.1 := fun r => List.not_lt.mpr r h
    rw [decide_eq_true h, decide_eq_false h2]
    rfl
  · have h2 : a.1 ≤ b.1 := List.not_lt.mp h
    rw [decide_eq_false h, decide_eq_true h2]
    rfl
/-- sorted(d): the key tuples, upwards -/
def qSortedT : List V → Hp → VK → Prop := fun xs H Q => ∃ (d : Addr) (kvs : List (List Key × V)) (ls : List (List Int)), xs = [.ref d] ∧ Rd H d (.dT kvs) ∧ kvs.map (·.1) = ls.map kI ∧ (∀ l ∈ ls, l ≠ []) ∧ ls.length ≤ 100000 ∧
  ∀ p (zs : List (List Int × Addr)), H p = none → zs.map (·.1) = ls.mergeSort (fun a b => decide (a ≤ b)) → (∀ z ∈ zs, H z.2 = some (.tup (z.1.map V.int))) → Q (.ref p) (upd H p (.lst (zs.map fun z => V.ref z.2)))
/-- the keys in the dict's order, each with its tuple -/
theorem keys_of {H : Hp} : ∀ {kvs : List (List Key × V)} {xs : List (List Key × Addr × Value)} {ls : List (List Int)}, Paired (fun (p : List Key × V) (q : List Key × Addr × Value) => p.1 = q.1 ∧ H q.2.1 = some (.tup (p.1.map kV)) ∧ RelV p.2 q.2.2) kvs xs → kvs.map (·.1) = ls.map kI →
    ∃ zs : List (List Int × Addr), zs.map (·.1) = ls ∧ zs.map (·.2) = xs.map (fun x => x.2.1) ∧ ∀ z ∈ zs, H z.2 = some (.tup (z.1.map V.int))
  | _, _, [], .nil, _ => ⟨[], rfl, rfl, fun _ h => by cases h⟩
  | _, _, _ :: _, .nil, e => by cases e
  | _, _, [], .cons _ _, e => by cases e
  | _, _, l :: ls, .cons (b := q) h t, e => by
    rw [List.map_cons, List.map_cons] at e
    injection e with e1 e2
    obtain ⟨zs, h1, h2, h3⟩ := keys_of t e2
    refine ⟨(l, q.2.1) :: zs, by rw [List.map_cons, h1], by rw [List.map_cons, List.map_cons, h2], fun z hz => ?_⟩
    rcases List.mem_cons.mp hz with rfl | hz
    · have := h.2.1
      rw [e1, kI_kV] at this
      exact this
    · exact h3 z hz
theorem each_of {us : List Value} {zs : List (List Int × Addr)} {R : Value → List Int × Addr → Prop} (h : us = zs.map fun z => Value.ref z.2) (k : ∀ z ∈ zs, R (.ref z.2) z) : PySem.W.EachIs R us zs := by
  subst h
  induction zs with
  | nil => exact .nil
  | cons z zs ih => exact .cons (k z (by simp)) (ih fun y hy => k y (by simp [hy]))
theorem of_each {us : List Value} {zs : List (List Int × Addr)} (h : PySem.W.EachIs (fun v z => v = Value.ref z.2) us zs) : us = zs.map fun z => Value.ref z.2 := by
  induction h with
  | nil => rfl
  | cons e _ ih => rw [e, ih]; rfl
theorem vals_of (zs : List (List Int × Addr)) : Vals (zs.map fun z => V.ref z.2) (zs.map fun z => Value.ref z.2) := by
  induction zs with
  | nil => exact .nil
  | cons z zs ih => exact .cons rfl ih
section
variable {X : Cx}
theorem k_sortedT (hu : X.A.units + 64 < cLine) (hc : X.calm = true := by rfl) : CallR X (.builtin "sorted") qSortedT := by
  rintro pins s σ H xs us Q I r ⟨d, kvs, ls, rfl, hd, hk, hne, hlen, q⟩
  obtain ⟨u, rfl, rx⟩ := vals1 r
  cases rx
  obtain ⟨hz, hs, ks, pr, o, es, ep, ho, hx, hdt, he, hn⟩ := (show ObjOk X.prog X.w H s.heap d (.dT kvs) from hd.ok I.hok)
  have l1 : es.size = ks.length := size_of_entries he
  have l2 : kvs.length = ks.length := Paired.length pr
  obtain ⟨zs, z1, z2, z3⟩ := keys_of pr hk
  have l3 : zs.length = ks.length := by
    have := congrArg List.length z2
    rw [List.length_map, List.length_map] at this
    exact this
  refine Calls.call_function_entry PyProof.Rows.kind_sorted PyProof.Rows.plain_sorted PyProof.Rows.entry_sorted (PyProof.Rows.args_sorted1 _) ?_
  unfold Builtin.«sorted»
  refine wpAny_bind (m := checkCount "sorted" 1 1 _) (wpAny_pure (wpAny_bind (PySem.W.kdu_collect (A := X.A.in1) (kdl_raw hs hx hdt) (I.ok.hd hc) ho (by omega) fun g tk acc kp it => ?_)))
  have ea : acc.toList = zs.map fun z => Value.ref z.2 := by
    have hl : acc.toList.length = ks.length := by rw [Array.length_toList, it.1, l1]
    have e2 : (zs.map fun z => Value.ref z.2) = ks.map fun x => Value.ref x.2.1 := by
      have := congrArg (List.map Value.ref) z2
      rw [List.map_map, List.map_map] at this
      exact this
    rw [e2]
    refine List.ext_getElem? fun j => ?_
    rw [List.getElem?_map]
    cases hj : acc.toList[j]? with
    | none => rw [List.getElem?_eq_none (by have := List.getElem?_eq_none_iff.mp hj; omega)]; rfl
    | some v =>
      obtain ⟨en, h1, h2⟩ := it.2 j v (by rw [← Array.getElem?_toList]; exact hj)
      have qe := entry_at he j
      rw [h1] at qe
      cases hb : ks[j]? with
      | none => rw [hb] at qe; cases qe
      | some b =>
        rw [hb] at qe
        rw [h2, Option.some.inj qe]
        rfl
  have J : Inv X pins σ H { s with heap := g, toks := tk } := I.kept kp
  have hL : acc.toList.length ≤ sizeLine := by rw [ea, List.length_map, l3, ← l2]; exact hz
  refine wpAny_bind (wpAny_newList ?_ hL)
  have hg : (g.push (seqObj "list" acc.toList.toArray 0)).get? g.objs.size = some (seqObj "list" acc.toList.toArray 0) := Heap.get?_push_size _ rfl
  have rd : ∀ z ∈ zs, Reads (g.push (seqObj "list" acc.toList.toArray 0)) (.ref z.2) (tupI z.1) [] := fun z hzm => by
    obtain ⟨a1, us2, a2, o2, a3, a4, n2, a5⟩ := (show ObjOk X.prog X.w H g z.2 (.tup (z.1.map V.int)) from J.hok _ _ (z3 z hzm))
    exact .tuple (Heap.get?_push_of_some _ a3) a4 a5 (by simpa using reads_ints a2)
  show wpAny _ _ _ _ _ { s with heap := g.push (seqObj "list" acc.toList.toArray 0), toks := tk }
  refine wpAny_bind (wpAny_holding (PySem.W.list_sort_data (β := List Int × Addr) (enc := fun z => tupI z.1) (R := fun v z => v = Value.ref z.2) (bs := zs) (s := { s with heap := g.push (seqObj "list" acc.toList.toArray 0), toks := tk }) hg
    (each_of ea fun _ _ => rfl) (each_of ea fun z hzm => ⟨[], rd z hzm, by simp⟩) (PySem.W.AllAlike.of fun a b => PySem.W.alike_ints a.1 b.1) (.inl fun e hem => ?_) (by rw [l3, ← l2]; exact hz) (fun z _ => ?_) fun out ho2 hE => ?_))
  · obtain ⟨z, hzm, rfl⟩ := List.mem_map.mp hem
    have : z.1 ≠ [] := hne z.1 (by rw [← z1]; exact List.mem_map.mpr ⟨z, hzm, rfl⟩)
    cases hz1 : z.1 with
    | nil => exact absurd hz1 this
    | cons i l => exact ⟨.int i, l.map .int, rfl⟩
  · have : (tupI z.1).depth = 1 := by show (PyData.depthAll (z.1.map .int)) + 1 = 1; rw [PySem.W.depth_ints]
    rw [this]
    show X.A.units + 1 + 1 + 1 < cLine
    omega
  · have eo := of_each hE
    obtain ⟨e', he'⟩ := PyProof.Rows.sortedHeap_at (vs := acc.toList) (out := List.toArray out) hg
    have hsz : (zs.mergeSort (PySem.W.dataLe false fun z : List Int × Addr => tupI z.1)).length = ks.length := by rw [List.length_mergeSort, l3]
    refine wpAny_pure ⟨_, rfl, .ref g.objs.size, upd H g.objs.size (.lst ((zs.mergeSort (PySem.W.dataLe false fun z : List Int × Addr => tupI z.1)).map fun z => V.ref z.2)), J.laid (t' := tk) (fun b v e => ?_) (Nat.le_refl _) ?_, rfl, q _ _ (J.hok.fresh (Nat.le_refl _)) ?_ fun z hzm => z3 z (List.mem_mergeSort.mp hzm)⟩
    · have hb : b < g.objs.size := Heap.lt_size e
      rw [PyProof.Rows.sortedHeap_old (Nat.ne_of_lt hb) (by rw [Heap.size_push]; exact Nat.lt_succ_of_lt hb)]
      exact Heap.get?_push_of_some _ e
    · exact ⟨by rw [List.length_map, hsz, ← l2]; exact hz, out, e', by rw [eo]; exact vals_of _, he'⟩
    · rw [List.map_mergeSort (s := fun a b => decide (a ≤ b)) (fun a _ b _ => le_ints a b), z1]
end
end FSo

/-! ## FLaw3 -/
set_option Elab.async false
set_option linter.all false
set_option maxRecDepth 100000
set_option maxHeartbeats 2000000
/-! The law's own defs: all points, expansions, answers, meets. -/
namespace FM
open PySem PySem.Spec PyProof.Rows L2
open Evl (Ex EvT Ev)
theorem combos_len {α : Type} [DecidableEq α] {names : List α} : ∀ m : Nat, (combos names m).length = names.length ^ m
  | 0 => rfl
  | m + 1 => by
    show ((combos names m).flatMap fun p => names.map fun x => p ++ [x]).length = _
    rw [List.length_flatMap]
    have : (combos names m).map (fun p => (names.map fun x => p ++ [x]).length) = (combos names m).map fun _ => names.length := List.map_congr_left fun p _ => List.length_map _
    rw [this, List.map_const', List.sum_replicate_nat, combos_len m, Nat.pow_succ]
theorem combos_le {α : Type} [DecidableEq α] {names : List α} {m : Nat} (hn : names.length ≤ 20) (hm : m ≤ 3) : (combos names m).length ≤ 8000 := by
  rw [combos_len]
  calc names.length ^ m ≤ 20 ^ m := Nat.pow_le_pow_left hn m
    _ ≤ 20 ^ 3 := Nat.pow_le_pow_right (by decide) hm
    _ = 8000 := by decide
theorem take_flat {α δ : Type} (f : α → List δ) (l : List α) (k : Nat) : ((l.take k).flatMap f).length ≤ (l.flatMap f).length := by
  have h : (l.take k ++ l.drop k).flatMap f = l.flatMap f := by rw [List.take_append_drop]
  rw [← h, List.flatMap_append, List.length_append]
  omega
theorem pupd {β : Type} {R : Rdr β} [MoT R] {H : Hp} {us : List V} {xs : List β} {G : Addr} {zs : List V} {o : HO} (hG : H G = some (.lst zs)) (h : Paired (R H) us xs) : Paired (R (upd H G o)) us xs := pmap h fun _ _ r => upT (Tx.upd hG (fun _ k => by cases k) fun _ _ k => by cases k) r
section
variable {P : Program} {w : World} {K : PySem.W.Frag} {mg : Str → Option Value} {base : Heap}
structure ApI where
  (rows : Rows Str) (m : Nat) (ok : Rok rows) (hm : m ≤ 3)
abbrev sp__law_all_points : Sp := spOf (fun (i : ApI) => a2 rRows rInt i.rows (i.m : Int)) fun i => nw rPts (combos (nms i.rows) i.m)
theorem ok__law_all_points (T : Txt K mg) : GFn P w K mg base "_law_all_points" 1 sp__law_all_points := by
  obtain ⟨fd, F⟩ := T.d__law_all_points
  have sc := (C8.fnScope_by (N := ["_law_rows", "_law_many", "_law_found", "_law_turn", "_law_longer", "_law_spot", "_law_row"]) (P := ["_law_rows", "_law_many"]) (sc := defScope st__law_all_points) (by kernel_rfl))
  refine gfn T.g__law_all_points F sc (F.bindsN fun _ _ _ _ _ _ us hl => match us, hl with | [_, _], _ => rfl) (fun i vs H ⟨_, _, e, _⟩ => by rw [e]; rfl) ?_
  intro cdv A outer s H E i vs Q hr ⟨v1, v2, e, r1, r2⟩ hq
  have nd := sc.nd
  subst e
  refine ⟨_, (PSs.nox (pss_cons (ps_set (i := 2) nd (by rfl) (by first | exact Or.inl rfl | exact Or.inr rfl) (pe_lst (pa_cons (pe_tup pa_nil) pa_nil)))
      (pss_cons (ps_for PassesOwn.never (by rfl) (k_range T.range (pa_cons (pv 1) pa_nil)) (pg_name (i := 3) nd (by rfl) (by first | exact Or.inl rfl | exact Or.inr rfl)) (pss_cons (ps_set (i := 4) nd (by rfl) (by first | exact Or.inl rfl | exact Or.inr rfl) (pe_lst pa_nil))
      (pss_cons (ps_for PassesOwn.never (by rfl) (k_pil K (pv 2)) (pg_name (i := 5) nd (by rfl) (by first | exact Or.inl rfl | exact Or.inr rfl)) (pss_one (ps_expr (k_bm K PySem.F.plainAttrs_list PySem.F.slot_list_extend PySem.F.type_list_extend mt_extend (pv 4) (pa_cons (pe_lc (own := [("_law_row", 6)]) (by rfl) nd (k_pil K (pv 0)) (blkOk_by (by kernel_rfl)) (fun _ _ _ _ _ => (pg_name (i := 6) nd (by rfl) (by first | exact Or.inl rfl | exact Or.inr rfl))) (fun _ _ _ _ _ => pts_nil) (fun _ _ _ _ _ => (pe_op (k_catA K) (pv 5) (pe_tup (pa_cons (pe_ix (k_ixT K) (pv 6) pe_int (by intro _ _; rfl)) pa_nil))))) pa_nil)))))
      (pss_one (ps_set (i := 2) nd (by rfl) (by first | exact Or.inl rfl | exact Or.inr rfl) (pv 4))))))
      (pss_one (ps_ret (pv 2)))))), ?_⟩
  have hlen : (nms i.rows).length ≤ 20 := by unfold nms; rw [List.length_map]; exact i.ok.len
  refine r_set (lst_ (R := rPt) (pa1 (EvP.of_nw (tup_ (R := rStr) pa0 (by decide))) pa0) (by decide)) fun v H1 e1 ⟨L, ev, hn, r0⟩ => ?_
  subst ev
  refine sq (r_for (H := H) (j_range (int_ (var rfl r2)) (by omega) (by have := i.hm; omega)) e1
    (fun j σ' H' => ∃ L u a b c, σ' = [some v1, some v2, some (V.ref L), u, a, b, c] ∧ H L = none ∧ rPts H' (.ref L) (combos (nms i.rows) j))
    (fun H2 e2 => ⟨L, _, _, _, _, rfl, hn, up e2 r0⟩) (fun Hn en hno j σ' H' hj hI eh v H3 e3 hy => ?_) fun σ' H' hI eh => ?_)
  · obtain ⟨L, u, a, b, c, rfl, hL, rL⟩ := hI
    have hm := i.hm
    have hj3 : j ≤ 3 := by simp at hj; omega
    have hl8 := combos_le (names := nms i.rows) hlen hj3
    have rL3 := up e3 rL
    refine r_set (lst_ (R := rPt) pa0 (by decide)) fun v4 H4 e4 ⟨G, ev, hG, bb, vs0, eb, hvs, rv⟩ => ?_
    subst ev
    cases eb
    have e03 : Ex H H3 := (en.trans eh).trans e3
    refine sq (r_for (H := H3) (j_list (R := rPt) (Evl.ev_var rfl) rL3) e4
      (fun k σ2 H' => (∃ x y, σ2 = [some v1, some v2, some (V.ref L), some v, some (V.ref G), x, y]) ∧ ∃ us, H' G = some (.lst us) ∧ Paired (rPt H') us (((combos (nms i.rows) j).take k).flatMap fun p => (nms i.rows).map fun x => p ++ [x]))
      (fun H5 e5 => ⟨⟨_, _, rfl⟩, vs0, e5 G _ hvs, pmap rv fun _ _ r => up e5 r⟩) (fun Hm em hmo k σ2 H5 hk hJ e5 v6 H6 e6 hy6 => ?_) fun σ2 H5 hJ e5 => ?_)
    · obtain ⟨⟨x, y, rfl⟩, us, hus, ru⟩ := hJ
      obtain ⟨p, hp, rp⟩ := hy6
      have hG6 := e6 G _ hus
      have hMG : Hm G = none := hmo G _ hG hvs rfl
      have hpl : p.length ≤ 3 := by
        have := (mem_combos.mp (List.mem_of_getElem? hp)).1
        omega
      have e9 : i.rows.map (fun r => p ++ [r.1]) = (nms i.rows).map fun x => p ++ [x] := by unfold nms; rw [List.map_map]; rfl
      have ht : ((combos (nms i.rows) j).take (k + 1)).flatMap (fun p => (nms i.rows).map fun x => p ++ [x]) = ((combos (nms i.rows) j).take k).flatMap (fun p => (nms i.rows).map fun x => p ++ [x]) ++ (nms i.rows).map fun x => p ++ [x] := by
        rw [List.take_add_one, hp, List.flatMap_append]
        simp
      have hb : (((combos (nms i.rows) j).take (k + 1)).flatMap (fun p => (nms i.rows).map fun x => p ++ [x])).length ≤ 8000 := Nat.le_trans (take_flat _ _ _) (combos_le (names := nms i.rows) (m := j + 1) hlen (by simp at hj; omega))
      rw [ht, List.length_append] at hb
      refine r_extend (R := rPt) (xs := i.rows.map fun r => p ++ [r.1]) hG6 (Evl.ev_var rfl) (EvP.of_nw (lcM (R := rPair rStr rPt) (R' := rPt) (xs := i.rows) (fun r => p ++ [r.1]) gm_name (i_list (var rfl (up ((e03.trans (em.trans e5)).trans e6) r1))) (by have := i.ok.len; omega) fun k2 r v2' H8 hx e8 rr =>
          ⟨Ex.refl _, rfl, et_yes, EvP.flatI (cat_t (var rfl (up e8 rp)) (EvP.of_nw (tup_ (R := rStr) (pa1 (ixP0 (var rfl rr)) pa0) (by simp))) (by simp; omega))⟩)) ?_ fun ws H7 e7 pw => ?_
      · have h1 := plen ru
        rw [e9]
        omega
      · refine ⟨⟨⟨_, _, rfl⟩, us ++ ws, upd_same, ?_⟩, Ex.mut ((e5.trans e6).trans e7) hMG⟩
        rw [ht, ← e9]
        exact papp (pupd (e7 G _ hG6) (pmap ru fun _ _ r => up (e6.trans e7) r)) (pupd (e7 G _ hG6) pw)
    · obtain ⟨⟨x, y, rfl⟩, us, hus, ru⟩ := hJ
      rw [List.take_length] at ru
      exact Evl.s_asg (Evl.ev_var rfl) fun H6 e6 => ⟨⟨G, _, _, _, _, rfl, Evl.fresh_back e03 hG, G, us, rfl, e6 G _ hus, pmap ru fun _ _ r => up e6 r⟩, ((eh.trans e3).trans e5).trans e6⟩
  · obtain ⟨L, u, a, b, c, rfl, hL, rL⟩ := hI
    exact r_retV (Evl.ev_var rfl) fun H2 e2 => hq _ _ (eh.trans e2) ⟨L, rfl, hL, by simpa using up e2 rL⟩
end
end FM

/-! ## FOrder -/
set_option Elab.async false
set_option linter.all false
set_option maxRecDepth 100000
set_option maxHeartbeats 2000000
/-! Points in their order; the highest and the lowest of some points. -/
namespace FM
open PySem PySem.Spec PyProof.Rows L2
open Evl (Ex EvT Ev)
/-! ### plain: points sorted by their places -/
section
variable {α : Type} [DecidableEq α] {names : List α}
theorem nodup_on {β γ : Type} {f : β → γ} : ∀ {l : List β}, (∀ a ∈ l, ∀ b ∈ l, f a = f b → a = b) → l.Nodup → (l.map f).Nodup
  | [], _, _ => List.nodup_nil
  | a :: l, h, nd => by
    rw [List.nodup_cons] at nd
    rw [List.map_cons, List.nodup_cons]
    refine ⟨fun q => ?_, nodup_on (fun x hx y hy => h x (by simp [hx]) y (by simp [hy])) nd.2⟩
    obtain ⟨b, hb, e⟩ := List.mem_map.mp q
    rw [h b (by simp [hb]) a (by simp) e] at hb
    exact nd.1 hb
/-- the point that stands at these places -/
def atIx (names : List α) (ps : List (List α)) (is : List Int) : List α := (ps.find? fun p => decide (ix names p = is)).getD []
theorem atIx_mem {ps : List (List α)} {is : List Int} (h : is ∈ ps.map (ix names)) : atIx names ps is ∈ ps ∧ ix names (atIx names ps is) = is := by
  unfold atIx
  cases q : ps.find? fun p => decide (ix names p = is) with
  | none =>
    obtain ⟨p, hp, e⟩ := List.mem_map.mp h
    exact absurd e (of_decide_eq_false (by simpa using List.find?_eq_none.mp q p hp))
  | some p => exact ⟨List.mem_of_find?_eq_some q, of_decide_eq_true (by simpa using List.find?_some q)⟩
theorem order_eq {m : Nat} {ps : List (List α)} (hn : names.Nodup) (hp : ∀ p ∈ ps, Pt names m p) (nd : ps.Nodup) :
    ((ps.map (ix names)).mergeSort fun a b => decide (a ≤ b)).map (atIx names ps) = (combos names m).filter fun p => isIn p ps := by
  have hL : ∀ is, is ∈ (ps.map (ix names)).mergeSort (fun a b => decide (a ≤ b)) ↔ is ∈ ps.map (ix names) := fun is => List.mem_mergeSort
  have ndI : (ps.map (ix names)).Nodup := nodup_on (fun a ha b hb e => ix_inj (hp a ha) (hp b hb) e) nd
  have ndL : ((ps.map (ix names)).mergeSort fun a b => decide (a ≤ b)).Nodup := (List.mergeSort_perm _ _).nodup_iff.mpr ndI
  have up : ((ps.map (ix names)).mergeSort fun a b => decide (a ≤ b)).Pairwise fun a b => decide (a ≤ b) = true := List.pairwise_mergeSort (le := fun a b : List Int => decide (a ≤ b)) (fun a b c h1 h2 => decide_eq_true (List.le_trans (of_decide_eq_true h1) (of_decide_eq_true h2))) (fun a b => by
    rcases List.le_total a b with h | h
    · rw [decide_eq_true h]; rfl
    · rw [decide_eq_true h]; exact Bool.or_true _) _
  refine sorted_eq (m := m) (names := names) (fun p h => ?_) (fun p h => mem_combos.mp (List.mem_filter.mp h).1) ?_ ((combos_sorted hn m).filter _) fun p => ?_
  · obtain ⟨is, hi, rfl⟩ := List.mem_map.mp h
    exact hp _ (atIx_mem ((hL is).mp hi)).1
  · unfold Sorted
    rw [List.pairwise_map]
    refine List.Pairwise.imp_of_mem (fun {a b} ha hb h => ?_) (up.and ndL)
    rw [(atIx_mem ((hL a).mp ha)).2, (atIx_mem ((hL b).mp hb)).2]
    have h1 : a ≤ b := of_decide_eq_true h.1
    rcases Classical.em (a < b) with k | k
    · exact k
    · exact absurd (List.le_antisymm h1 (List.not_lt.mp k)) h.2
  · rw [List.mem_map, List.mem_filter, isIn_iff]
    constructor
    · rintro ⟨is, hi, rfl⟩
      have := atIx_mem ((hL is).mp hi)
      exact ⟨mem_combos.mpr (hp _ this.1), this.1⟩
    · rintro ⟨_, h⟩
      have hm : ix names p ∈ ps.map (ix names) := List.mem_map.mpr ⟨p, h, rfl⟩
      exact ⟨_, (hL _).mpr hm, ix_inj (hp _ (atIx_mem hm).1) (hp p h) (atIx_mem hm).2⟩
end
/-! ### what they come to -/
section
variable {K : PySem.W.Frag} {σ : L2.St} {H : Hp} {te ta tb tk tv : TE} {wi : TI} {g : TG} {vs : List Nat} {β γ : Type} {R : Rdr β} {S : Rdr γ} {xs : List β}
/-- a dict whose keys are tuples, told by its pairs -/
abbrev KvG (R : Rdr γ) (kf : β → List Key) (hf : β → γ) (H : Hp) (kvs : List (List Key × V)) (xs : List β) : Prop := Paired (fun (kv : List Key × V) x => kv.1 = kf x ∧ R H kv.2 (hf x)) kvs xs
theorem kvG_keys {kf : β → List Key} {hf : β → γ} : ∀ {kvs : List (List Key × V)} {xs : List β}, KvG S kf hf H kvs xs → kvs.map (·.1) = xs.map kf
  | _, _, .nil => rfl
  | _, _, .cons h t => by rw [List.map_cons, List.map_cons, h.1, kvG_keys t]
theorem dcD [MoT S] (kf : β → List Key) (hf : β → γ) (gm : GM g) (hn : xs.length ≤ 50000) (nd : (xs.map kf).Nodup) (hi : EvI wi σ H xs.length (ith R xs))
    (ht : ∀ (i : Nat) (x : β) v H1, xs[i]? = some x → Ex H H1 → R H1 v x → g v (wipe σ vs) H1 fun σ2 H2 => Ex H1 H2 ∧ wipe σ2 vs = wipe σ vs ∧ EvP tk σ2 H2 (fun _ y H3 => ∃ b, y = .ref b ∧ H3 b = some (.tup ((kf x).map kV))) ∧ EvP tv σ2 H2 (is S (hf x))) :
    EvP (FD.tDcT wi g tk tv vs) σ H (fun H1 v H2 => ∃ D kvs, v = .ref D ∧ H1 D = none ∧ H2 D = some (.dT kvs) ∧ KvG S kf hf H2 kvs xs) := fun H1 e1 Q q =>
  hi H1 e1 _ fun J H2 e2 w D hD => by
    let Wd : Nat → Hp → Prop := fun i H' => Ex H2 H' ∧ ∃ kvs, H' D = some (.dT kvs) ∧ KvG S kf hf H' kvs (xs.take i)
    refine ⟨fun i m H' => m = xs.length - i ∧ i ≤ xs.length ∧ Wd i H', ⟨xs.length, rfl, Nat.zero_le _, Ex.new hD, [], upd_same, .nil⟩, ?_⟩
    rintro i m H3 ⟨rfl, hin, e3, kvs, hk, hp⟩
    by_cases hlt : i < xs.length
    · refine .inr ⟨w.go i H3 hlt e3, fun H' => Wd (i + 1) H', fun H' p => ⟨xs.length - (i + 1), by omega, rfl, hlt, p⟩, fun v H4 y => ?_⟩
      obtain ⟨e4, x, hx, rx⟩ := w.yld i H3 v H4 hlt e3 y
      refine gm _ _ _ _ _ (fun σ2 H5 z => ?_) (ht i x v H4 hx (((e1.trans e2).trans e3).trans e4) rx)
      obtain ⟨e5, hw, hK, hV⟩ := z
      refine ⟨hw, hK H5 (Ex.refl _) _ fun yv H6 e6 ⟨b, ey, hb⟩ => hV H6 e6 _ fun u H7 e7 ru => ?_⟩
      have e37 : Ex H3 H7 := ((e4.trans e5).trans e6).trans e7
      have h7 : H7 D = some (.dT kvs) := e37 D _ hk
      have up7 : ∀ {v : V} {z : γ} {H' : Hp}, Ex H' H7 → S H' v z → S (upd H7 D (.dT (putK kvs (kf x) u))) v z := fun e r => upT ((Tx.of e).trans (Tx.upd h7 (fun _ k => by cases k) fun _ _ k => by cases k)) r
      refine ⟨b, kvs, kf x, ey, e7 b _ hb, h7, ?_, Ex.mut (e3.trans e37) hD, _, upd_same, ?_⟩
      · have h1 := plen hp
        have h2 := List.length_take_le' i xs
        exact Evl.sz_lt (by omega)
      · have ht : xs.take (i + 1) = xs.take i ++ [x] := by rw [List.take_add_one, hx]; rfl
        generalize upd H7 D (.dT (putK kvs (kf x) u)) = HH at up7
        rw [ht, putT_snoc]
        · exact psnoc (pmap hp fun _ _ r => ⟨r.1, up7 e37 r.2⟩) ⟨rfl, up7 (Ex.refl _) ru⟩
        · rw [kvG_keys hp]
          intro k
          have h1 : xs.map kf = (xs.take i).map kf ++ kf x :: (xs.drop (i + 1)).map kf := by
            have h2 := (List.getElem?_eq_some_iff.mp hx).2
            have h3 : xs = xs.take i ++ x :: xs.drop (i + 1) := by rw [← h2, List.getElem_cons_drop, List.take_append_drop]
            rw [← List.map_cons, ← List.map_append, ← h3]
          rw [h1, List.nodup_append] at nd
          exact nd.2.2 _ k _ (by simp) rfl
    · have e : i = xs.length := by omega
      subst e
      rw [List.take_length] at hp
      exact .inl ⟨w.stop H3 e3, q _ H3 (e2.trans e3) ⟨D, kvs, rfl, Evl.fresh_back e2 hD, hk, hp⟩⟩
theorem rTupI {H : Hp} {b : Addr} : ∀ {l : List Int}, H b = some (.tup (l.map V.int)) → rTup rInt H (.ref b) l := fun {l} h => ⟨b, _, rfl, h, by
  clear h
  induction l with
  | nil => exact .nil
  | cons i l ih => exact .cons rfl ih⟩
/-- sorted(d) -/
theorem sorted_d {kf : β → List Int} {hf : β → γ} {d : Addr} {kvs : List (List Key × V)} (hne : ∀ x ∈ xs, kf x ≠ []) (hl : xs.length ≤ 100000) (h : Ev te σ H (.ref d)) (hd : H d = some (.dT kvs)) (r : KvG S (fun x => FSo.kI (kf x)) hf H kvs xs) :
    EvP (tCB FSo.qSortedT (tCons te tNil)) σ H (nw (rLst (rTup rInt)) ((xs.map kf).mergeSort fun a b => decide (a ≤ b))) := fun H1 e Q q =>
  h H1 e _ fun H2 e2 => by
    refine ⟨d, kvs, xs.map kf, rfl, .inl (e2 d _ (e d _ hd)), by rw [kvG_keys r, List.map_map]; rfl, fun l hm => ?_, by rw [List.length_map]; exact hl, fun p zs hp hz hk => q _ _ (e2.trans (Ex.new hp)) ⟨p, rfl, Evl.fresh_back e2 hp, p, _, rfl, upd_same, ?_⟩⟩
    · obtain ⟨x, hx, rfl⟩ := List.mem_map.mp hm
      exact hne x hx
    · rw [← hz]
      clear hz
      have hk2 : ∀ z ∈ zs, (upd H2 p (.lst (zs.map fun z => V.ref z.2))) z.2 = some (.tup (z.1.map V.int)) := fun z hm => Ex.new hp _ _ (hk z hm)
      generalize upd H2 p (.lst (zs.map fun z => V.ref z.2)) = H3 at hk2
      clear hk
      induction zs with
      | nil => exact .nil
      | cons z zs ih => exact .cons (rTupI (hk2 z (by simp))) (ih fun y hy => hk2 y (by simp [hy]))
theorem kI_inj {a b : List Int} (h : FSo.kI a = FSo.kI b) : a = b := by
  induction a generalizing b with
  | nil => cases b with | nil => rfl | cons y b => cases h
  | cons x a ih =>
    cases b with
    | nil => cases h
    | cons y b =>
      injection h with h1 h2
      rw [Sum.inl.inj h1, ih h2]
/-- d[t], t a tuple of ints -/
theorem getI [Mono S] {kf : β → List Int} {hf : β → γ} {d : Addr} {kvs : List (List Key × V)} {is0 : List Int} {x : β} (hx : x ∈ xs) (hxi : kf x = is0) (inj : ∀ y ∈ xs, kf y = is0 → y = x) (h : Ev ta σ H (.ref d)) (hd : H d = some (.dT kvs)) (r : KvG S (fun x => FSo.kI (kf x)) hf H kvs xs) (hk : EvP tb σ H (is (rTup rInt) is0)) :
    EvP (tDGet ta tb) σ H (is S (hf x)) := fun H1 e Q q =>
  h H1 e _ fun H2 e2 => hk H2 (e.trans e2) _ fun w H3 e3 ⟨b, us, ew, hb, ri⟩ => by
    subst ew
    have eu := ints_of ri
    subst eu
    have find : ∀ {kvs : List (List Key × V)} {l : List β}, KvG S (fun x => FSo.kI (kf x)) hf H kvs l → x ∈ l → (∀ y ∈ l, kf y = is0 → y = x) → ∃ v, valV kvs (FSo.kI is0) = some v ∧ S H v (hf x) := by
      intro kvs l r
      induction r with
      | nil => intro h; cases h
      | @cons kv y l m h t ih =>
        intro hm hi
        by_cases e0 : kf y = is0
        · have := hi y (by simp) e0
          subst this
          exact ⟨kv.2, valV_pos (h.1.trans (congrArg FSo.kI e0)), h.2⟩
        · rw [valV_neg (fun k => e0 (kI_inj (h.1.symm.trans k)))]
          refine ih ((List.mem_cons.mp hm).resolve_left fun k => e0 (by rw [← k]; exact hxi)) fun z hz => hi z (by simp [hz])
    obtain ⟨v, hv, rv⟩ := find r hx inj
    exact ⟨d, v, rfl, .inr ⟨kvs, FSo.kI is0, b, .inl ((e.trans (e2.trans e3)) d _ hd), rfl, by rw [FSo.kI_kV]; exact hb, hv.symm⟩, q v H3 (e2.trans e3) (up (R := S) (e.trans (e2.trans e3)) rv)⟩
end
section
variable {P : Program} {w : World} {K : PySem.W.Frag} {mg : Str → Option Value} {base : Heap}
/-- different points of one length -/
structure OrI where
  (rows : Rows Str) (m : Nat) (ps : List (List Str)) (hp : ∀ p ∈ ps, Pt (nms rows) m p) (h1 : 1 ≤ m) (h3 : m ≤ 3) (ok : Rok rows) (hl : ps.length ≤ 10000) (nd : ps.Nodup)
/-- these points in their order -/
abbrev srt (rows : Rows Str) (m : Nat) (ps : List (List Str)) : List (List Str) := (combos (nms rows) m).filter fun p => isIn p ps
abbrev sp_in_order : Sp := spOf (fun (i : OrI) => a2 (rH K) rPts i.rows i.ps) fun i => nw rPts (srt i.rows i.m i.ps)
theorem ok_in_order (T : Txt K mg) (G_Hierarchy_position_of : GMt P w K mg base "Hierarchy" "position_of" 3 (sp_pos (K := K))) : GFn P w K mg base "in_order" 4 (sp_in_order (K := K)) := by
  obtain ⟨fd, F⟩ := T.d_in_order
  have sc := (C8.fnScope_by (N := ["hierarchy", "points", "found", "point", "positions", "name"]) (P := ["hierarchy", "points"]) (sc := defScope st_in_order) (by kernel_rfl))
  refine gfn T.g_in_order F sc (F.bindsN fun _ _ _ _ _ _ us hl => match us, hl with | [_, _], _ => rfl) (fun i vs H ⟨_, _, e, _⟩ => by rw [e]; rfl) ?_
  intro cdv A outer s H E ⟨rows, m, ps, hp, h1, h3, ok, hl, nd0⟩ vs Q hr ⟨v1, v2, e, r1, r2⟩ hq
  have nd := sc.nd
  have hu := u1 hr
  have hu64 := u64 hr
  subst e
  refine ⟨_, (PSs.nox (pss_cons (ps_set (i := 2) nd (by rfl) (by first | exact Or.inl rfl | exact Or.inr rfl) (FD.pe_dcT (own := [("point", 3)]) (by rfl) nd hu (k_pil K (pv 1)) (blkOk_by (by kernel_rfl)) (fun _ _ _ _ _ => (pg_name (i := 3) nd (by rfl) (by first | exact Or.inl rfl | exact Or.inr rfl))) (fun _ _ _ _ _ => (pe_callTy (k_tuple_of K) (by rfl) T.tuple (by decide +kernel) (pa_cons (pe_lc (own := [("name", 5)]) (by rfl) nd (k_pit K (pv 3)) (blkOk_by (by kernel_rfl)) (fun _ _ _ _ _ => (pg_name (i := 5) nd (by rfl) (by first | exact Or.inl rfl | exact Or.inr rfl))) (fun _ _ _ _ _ => pts_nil) (fun _ _ _ _ _ => (kmeth G_Hierarchy_position_of hr (pv 0) (pa_cons (pv 5) pa_nil)))) pa_nil))) (fun _ _ _ _ _ => (pv 3))))
      (pss_one (ps_ret (pe_lc (own := [("positions", 4)]) (by rfl) nd (k_pil K (pe_callB (FSo.k_sortedT hu64) (by rfl) T.sorted (by decide +kernel) (pa_cons (pv 2) pa_nil))) (blkOk_by (by kernel_rfl)) (fun _ _ _ _ _ => (pg_name (i := 4) nd (by rfl) (by first | exact Or.inl rfl | exact Or.inr rfl))) (fun _ _ _ _ _ => pts_nil) (fun _ _ _ _ _ => (pe_dget hu (pv 2) (pv 4) (by intro _ _; rfl)))))))), ?_⟩
  have ndk : (ps.map fun p => FSo.kI (ix (nms rows) p)).Nodup := nodup_on (fun a ha b hb e => ix_inj (hp a ha) (hp b hb) (kI_inj e)) nd0
  refine r_set (dcD (R := rPt) (S := rPt) (xs := ps) (fun p => FSo.kI (ix (nms rows) p)) (fun p => p) gm_name (by omega) ndk (i_list (var rfl r2)) ?_) fun v H1 e1 ⟨D, kvs, ev, hn, hD, rk⟩ => ?_
  · intro j p v H1 hpj e rp
    have hpp := hp p (List.mem_of_getElem? hpj)
    refine ⟨Ex.refl _, rfl, (EvP.of_nw (tuple_l (R := rInt) (EvP.of_nw (lcM (R := rStr) (R' := rInt) (xs := p) (fun x => ((nms rows).idxOf x : Int)) gm_name (i_tup (var rfl (rTup.r rp))) (by have := hpp.1; omega) ?_)))).imp fun _ y H2 _ _ ⟨b, us, ey, hb, ri⟩ => ⟨b, ey, by rw [FSo.kI_kV]; rw [hb, ints_of ri]; rfl⟩, var rfl rp⟩
    intro k x vx H2 hx e2 rx
    exact ⟨Ex.refl _, rfl, et_yes, EvP.flatI (mcall_ (P := fun (i : HasI) => is rInt ((nms i.1.1).idxOf i.1.2 : Int)) (R := rH K) ⟨(rows, x), hpp.2 x (List.mem_of_getElem? hx)⟩ (var rfl (up (e.trans e2) r1)) (rH_ob fun _ _ => rfl) (ea1 (var (R := rStr) rfl rx)) m1)⟩
  · subst ev
    refine r_ret (P := nw rPts (srt rows m ps)) ?_ fun v H2 e2 p => hq v H2 (e1.trans e2) (Dn.dn e1 p)
    show EvP _ _ _ (nw rPts (srt rows m ps))
    rw [show srt rows m ps = _ from (order_eq (names := nms rows) ok.good.nodup hp nd0).symm]
    refine lcM (R := rTup rInt) (R' := rPt) (xs := (ps.map (ix (nms rows))).mergeSort fun a b => decide (a ≤ b)) (atIx (nms rows) ps) gm_name (i_list (EvP.of_nw (sorted_d (kf := ix (nms rows)) (hf := fun p => p) (xs := ps) (S := rPt) (fun p hm => ?_) (by omega) (Evl.ev_var rfl) hD rk))) ?_ ?_
    · have h2 := (hp p hm).1
      intro k
      have := congrArg List.length k
      unfold ix at this
      rw [List.length_map] at this
      simp at this
      rw [this] at h2
      simp at h2
      omega
    · rw [List.length_mergeSort, List.length_map]
      omega
    · intro j is0 v H2 hi e2 ri
      have hm : is0 ∈ ps.map (ix (nms rows)) := List.mem_mergeSort.mp (List.mem_of_getElem? hi)
      obtain ⟨g1, g2⟩ := atIx_mem hm
      exact ⟨Ex.refl _, rfl, et_yes, EvP.flatI (getI (hf := fun p => p) (S := rPt) g1 g2 (fun y hy e => ix_inj (hp y hy) (hp _ g1) (e.trans g2.symm)) (Evl.ev_var rfl) (e2 D _ hD) (pmap rk fun _ _ r => ⟨r.1, up e2 r.2⟩) (var rfl ri))⟩
abbrev sp_listed : Sp := spOf (fun (i : OrI) => a2 (rH K) rPts i.rows i.ps) fun i => nw rPts (srt i.rows i.m i.ps)
theorem ok_listed (T : Txt K mg) (G_require_points : GFn P w K mg base "require_points" 3 (sp_req_points (K := K))) (G_in_order : GFn P w K mg base "in_order" 4 (sp_in_order (K := K))) : GFn P w K mg base "listed" 5 (sp_listed (K := K)) := by
  obtain ⟨fd, F⟩ := T.d_listed
  have sc := (C8.fnScope_by (N := ["hierarchy", "points"]) (P := ["hierarchy", "points"]) (sc := defScope st_listed) (by kernel_rfl))
  refine gfn T.g_listed F sc (F.bindsN fun _ _ _ _ _ _ us hl => match us, hl with | [_, _], _ => rfl) (fun i vs H ⟨_, _, e, _⟩ => by rw [e]; rfl) ?_
  intro cdv A outer s H E ⟨rows, m, ps, hp, h1, h3, ok, hl, nd0⟩ vs Q hr ⟨v1, v2, e, r1, r2⟩ hq
  have nd := sc.nd
  subst e
  refine ⟨_, (PSs.nox (pss_cons (ps_expr (kcall G_require_points hr (pa_cons (pv 0) (pa_cons (pv 1) pa_nil))))
      (pss_one (ps_ret (kcall G_in_order hr (pa_cons (pv 0) (pa_cons (pv 1) pa_nil))))))), ?_⟩
  refine sq (r_drop (call_ (P := fun (_ : PsI) => isNon) ⟨rows, m, ps, hp, h1, h3, ok, hl⟩ (ea2 (var (R := rH K) rfl r1) (var (R := rPts) rfl r2))) fun _ H1 e1 _ => ?_)
  dsimp only
  refine r_ret (P := nw rPts (srt rows m ps)) (call_ (P := fun (i : OrI) => nw rPts (srt i.rows i.m i.ps)) ⟨rows, m, ps, hp, h1, h3, ok, hl, nd0⟩ (ea2 (R := rH K) (S := rPts) (var rfl (up e1 r1)) (var rfl (up e1 r2)))) fun v H2 e2 p => hq v H2 (e1.trans e2) (Dn.dn e1 p)
theorem srt_pts {rows : Rows Str} {m : Nat} {ps : List (List Str)} : ∀ p ∈ srt rows m ps, Pt (nms rows) m p := fun p h => mem_combos.mp (List.mem_filter.mp h).1
theorem srt_len {rows : Rows Str} {m : Nat} {ps : List (List Str)} (ok : Rok rows) (h3 : m ≤ 3) : (srt rows m ps).length ≤ 8000 := by
  have hlen : (nms rows).length ≤ 20 := by unfold nms; rw [List.length_map]; exact ok.len
  exact Nat.le_trans (List.length_filter_le _ _) (combos_le hlen h3)
abbrev sp_highest : Sp := spOf (fun (i : OrI) => a2 (rH K) rPts i.rows i.ps) fun i => nw rPts (highs (leOf i.rows) (srt i.rows i.m i.ps))
abbrev sp_lowest : Sp := spOf (fun (i : OrI) => a2 (rH K) rPts i.rows i.ps) fun i => nw rPts (lows (leOf i.rows) (srt i.rows i.m i.ps))
theorem foldMax_sub {α : Type} [DecidableEq α] {r : α → α → Bool} : ∀ (S acc : List α), ∀ a ∈ foldMax r acc S, a ∈ acc ∨ a ∈ S
  | [], acc, a, h => .inl h
  | p :: S, acc, a, h => by
    rcases foldMax_sub S _ a h with k | k
    · have k : a ∈ (if acc.any (fun o => r p o) = true then acc else acc ++ [p]) := k
      split at k
      · exact .inl k
      · rcases List.mem_append.mp k with k | k
        · exact .inl k
        · exact .inr (by rw [List.mem_singleton.mp k]; simp)
    · exact .inr (by simp [k])
theorem foldMax_len {α : Type} [DecidableEq α] {r : α → α → Bool} : ∀ (S acc : List α), (foldMax r acc S).length ≤ acc.length + S.length
  | [], acc => Nat.le_refl _
  | p :: S, acc => by
    have h := foldMax_len (r := r) S (if acc.any (fun o => r p o) = true then acc else acc ++ [p])
    have e : foldMax r acc (p :: S) = foldMax r (if acc.any (fun o => r p o) = true then acc else acc ++ [p]) S := rfl
    rw [e, List.length_cons]
    split at h
    · rename_i q
      rw [if_pos q]
      omega
    · rename_i q
      rw [if_neg q]
      simp at h
      omega
theorem ok_highest (T : Txt K mg) (G_listed : GFn P w K mg base "listed" 5 (sp_listed (K := K))) (G_lies_at_or_below : GFn P w K mg base "lies_at_or_below" 4 (sp_lies (K := K))) : GFn P w K mg base "highest" 6 (sp_highest (K := K)) := by
  obtain ⟨fd, F⟩ := T.d_highest
  have sc := (C8.fnScope_by (N := ["hierarchy", "points", "found", "point", "other"]) (P := ["hierarchy", "points"]) (sc := defScope st_highest) (by kernel_rfl))
  refine gfn T.g_highest F sc (F.bindsN fun _ _ _ _ _ _ us hl => match us, hl with | [_, _], _ => rfl) (fun i vs H ⟨_, _, e, _⟩ => by rw [e]; rfl) ?_
  intro cdv A outer s H E ⟨rows, m, ps, hp, h1, h3, ok, hl, nd0⟩ vs Q hr ⟨v1, v2, e, r1, r2⟩ hq
  have nd := sc.nd
  subst e
  refine ⟨_, (PSs.nox (pss_cons (ps_set (i := 2) nd (by rfl) (by first | exact Or.inl rfl | exact Or.inr rfl) (pe_lst pa_nil))
      (pss_cons (ps_for PassesOwn.never (by rfl) (k_pil K (kcall G_listed hr (pa_cons (pv 0) (pa_cons (pv 1) pa_nil)))) (pg_name (i := 3) nd (by rfl) (by first | exact Or.inl rfl | exact Or.inr rfl)) (pss_one (ps_if (pt_not (pt_val (pe_callB (k_any K) (by rfl) T.any (by decide +kernel) (pa_cons (pe_lc (own := [("other", 4)]) (by rfl) nd (k_pil K (pv 2)) (blkOk_by (by kernel_rfl)) (fun _ _ _ _ _ => (pg_name (i := 4) nd (by rfl) (by first | exact Or.inl rfl | exact Or.inr rfl))) (fun _ _ _ _ _ => pts_nil) (fun _ _ _ _ _ => (kcall G_lies_at_or_below hr (pa_cons (pv 0) (pa_cons (pv 3) (pa_cons (pv 4) pa_nil)))))) pa_nil)))) (pss_one (ps_expr (k_bm K PySem.F.plainAttrs_list PySem.F.slot_list_append PySem.F.type_list_append mt_append (pv 2) (pa_cons (pv 3) pa_nil)))) pss_nil)))
      (pss_one (ps_ret (pv 2)))))), ?_⟩
  have hlS := srt_len (ps := ps) ok h3
  refine r_set (lst_ (R := rPt) pa0 (by decide)) fun v H1 e1 ⟨L, ev, hn, b, vs0, eb, hL, rL⟩ => ?_
  subst ev
  cases eb
  refine sq (r_for (H := H) (j_new (R := rPt) (call_ (P := fun (i : OrI) => nw rPts (srt i.rows i.m i.ps)) ⟨rows, m, ps, hp, h1, h3, ok, hl, nd0⟩ (ea2 (var (R := rH K) rfl r1) (var rfl r2)))) e1
    (fun j σ' H' => (∃ u w', σ' = [some v1, some v2, some (V.ref L), u, w']) ∧ ∃ us, H' L = some (.lst us) ∧ Paired (rPt H') us (foldMax (pLe (leOf rows)) [] ((srt rows m ps).take j)))
    (fun H2 e2 => ⟨⟨_, _, rfl⟩, vs0, e2 L _ hL, pmap rL fun _ _ r => up e2 r⟩) (fun Hn en hno j σ' H' hj hI eh v3 H3 e3 hy => ?_) fun σ' H' hI eh => ?_)
  · obtain ⟨⟨u, w', rfl⟩, us, hus, ru⟩ := hI
    obtain ⟨p, hpj, rp⟩ := hy
    have e03 := (en.trans eh).trans e3
    have hpp := srt_pts p (List.mem_of_getElem? hpj)
    have hL3 := e3 L _ hus
    have hacc : ∀ a ∈ foldMax (pLe (leOf rows)) [] ((srt rows m ps).take j), Pt (nms rows) m a := fun a ha => by
      rcases foldMax_sub _ _ a ha with k | k
      · cases k
      · exact srt_pts a (List.mem_of_mem_take k)
    have hal := foldMax_len (r := pLe (leOf rows)) ((srt rows m ps).take j) []
    have htl := List.length_take_le' j (srt rows m ps)
    simp only [List.length_nil] at hal
    have step : foldMax (pLe (leOf rows)) [] ((srt rows m ps).take (j + 1)) = if (foldMax (pLe (leOf rows)) [] ((srt rows m ps).take j)).any (fun o => pLe (leOf rows) p o) = true then foldMax (pLe (leOf rows)) [] ((srt rows m ps).take j) else foldMax (pLe (leOf rows)) [] ((srt rows m ps).take j) ++ [p] := by
      unfold foldMax
      exact fold_take hpj
    have rL3 : rPts H3 (.ref L) (foldMax (pLe (leOf rows)) [] ((srt rows m ps).take j)) := ⟨L, us, rfl, hL3, pmap ru fun _ _ r => up e3 r⟩
    refine Evl.s_if (Evl.et_not (Evl.et_B (any_map (lcD (R := rPt) (fun _ => true) (fun o => pLe (leOf rows) p o) gm_name (i_list (var rfl rL3)) (by omega) fun k o vo H5 ho e5 ro =>
      ⟨Ex.refl _, rfl, et_yes, fun _ => Ev.flat (lies_ hpp (hacc o (List.mem_of_getElem? ho)) h1 h3 ok (var rfl (up (e03.trans e5) r1)) (var rfl (up e5 rp)) (var rfl ro))⟩)))) (fun hb H4 e4 => ?_) fun hb H4 e4 => ?_
    · refine r_append (P := is rPt p) (e4 L _ hL3) (Evl.ev_var rfl) (var rfl (up e4 rp)) (by have := plen ru; omega) fun v5 H5 e5 r5 => ⟨⟨⟨_, _, rfl⟩, us ++ [v5], upd_same, ?_⟩, Ex.mut (((eh.trans e3).trans e4).trans e5) (hno L _ hn hL rfl)⟩
      rw [step, if_neg (by rw [Bool.not_eq_true'] at hb; rw [hb]; decide)]
      exact psnoc (pupd (e5 L _ (e4 L _ hL3)) (pmap ru fun _ _ r => up ((e3.trans e4).trans e5) r)) (upT (Tx.upd (e5 L _ (e4 L _ hL3)) (fun _ k => by cases k) fun _ _ k => by cases k) r5)
    · refine ⟨⟨⟨_, _, rfl⟩, us, e4 L _ hL3, ?_⟩, (eh.trans e3).trans e4⟩
      rw [step, if_pos (by simpa using hb)]
      exact pmap ru fun _ _ r => up (e3.trans e4) r
  · obtain ⟨⟨u, w', rfl⟩, us, hus, ru⟩ := hI
    rw [List.take_length, foldHigh ok.good.grid srt_pts ((combos_sorted ok.good.nodup m).filter _)] at ru
    exact r_retV (Evl.ev_var rfl) fun H2 e2 => hq _ _ (eh.trans e2) ⟨L, rfl, hn, L, us, rfl, e2 L _ hus, pmap ru fun _ _ r => up e2 r⟩
theorem ok_lowest (T : Txt K mg) (G_listed : GFn P w K mg base "listed" 5 (sp_listed (K := K))) (G_lies_at_or_below : GFn P w K mg base "lies_at_or_below" 4 (sp_lies (K := K))) : GFn P w K mg base "lowest" 6 (sp_lowest (K := K)) := by
  obtain ⟨fd, F⟩ := T.d_lowest
  have sc := (C8.fnScope_by (N := ["hierarchy", "points", "found", "point", "other"]) (P := ["hierarchy", "points"]) (sc := defScope st_lowest) (by kernel_rfl))
  refine gfn T.g_lowest F sc (F.bindsN fun _ _ _ _ _ _ us hl => match us, hl with | [_, _], _ => rfl) (fun i vs H ⟨_, _, e, _⟩ => by rw [e]; rfl) ?_
  intro cdv A outer s H E ⟨rows, m, ps, hp, h1, h3, ok, hl, nd0⟩ vs Q hr ⟨v1, v2, e, r1, r2⟩ hq
  have nd := sc.nd
  subst e
  refine ⟨_, (PSs.nox (pss_cons (ps_set (i := 2) nd (by rfl) (by first | exact Or.inl rfl | exact Or.inr rfl) (pe_lst pa_nil))
      (pss_cons (ps_for PassesOwn.never (by rfl) (k_pil K (k_rev K (kcall G_listed hr (pa_cons (pv 0) (pa_cons (pv 1) pa_nil))))) (pg_name (i := 3) nd (by rfl) (by first | exact Or.inl rfl | exact Or.inr rfl)) (pss_one (ps_if (pt_not (pt_val (pe_callB (k_any K) (by rfl) T.any (by decide +kernel) (pa_cons (pe_lc (own := [("other", 4)]) (by rfl) nd (k_pil K (pv 2)) (blkOk_by (by kernel_rfl)) (fun _ _ _ _ _ => (pg_name (i := 4) nd (by rfl) (by first | exact Or.inl rfl | exact Or.inr rfl))) (fun _ _ _ _ _ => pts_nil) (fun _ _ _ _ _ => (kcall G_lies_at_or_below hr (pa_cons (pv 0) (pa_cons (pv 4) (pa_cons (pv 3) pa_nil)))))) pa_nil)))) (pss_one (ps_expr (k_bm K PySem.F.plainAttrs_list PySem.F.slot_list_append PySem.F.type_list_append mt_append (pv 2) (pa_cons (pv 3) pa_nil)))) pss_nil)))
      (pss_one (ps_ret (k_rev K (pv 2))))))), ?_⟩
  have hlS := srt_len (ps := ps) ok h3
  refine r_set (lst_ (R := rPt) pa0 (by decide)) fun v H1 e1 ⟨L, ev, hn, b, vs0, eb, hL, rL⟩ => ?_
  subst ev
  cases eb
  refine sq (r_for (H := H) (j_new (R := rPt) (revL (EvP.of_nw (call_ (P := fun (i : OrI) => nw rPts (srt i.rows i.m i.ps)) ⟨rows, m, ps, hp, h1, h3, ok, hl, nd0⟩ (ea2 (var (R := rH K) rfl r1) (var rfl r2)))))) e1
    (fun j σ' H' => (∃ u w', σ' = [some v1, some v2, some (V.ref L), u, w']) ∧ ∃ us, H' L = some (.lst us) ∧ Paired (rPt H') us (foldMax (fun a b => pLe (leOf rows) b a) [] ((srt rows m ps).reverse.take j)))
    (fun H2 e2 => ⟨⟨_, _, rfl⟩, vs0, e2 L _ hL, pmap rL fun _ _ r => up e2 r⟩) (fun Hn en hno j σ' H' hj hI eh v3 H3 e3 hy => ?_) fun σ' H' hI eh => ?_)
  · obtain ⟨⟨u, w', rfl⟩, us, hus, ru⟩ := hI
    obtain ⟨p, hpj, rp⟩ := hy
    have e03 := (en.trans eh).trans e3
    have hpp := srt_pts p (List.mem_reverse.mp (List.mem_of_getElem? hpj))
    have hL3 := e3 L _ hus
    have hacc : ∀ a ∈ foldMax (fun a b => pLe (leOf rows) b a) [] ((srt rows m ps).reverse.take j), Pt (nms rows) m a := fun a ha => by
      rcases foldMax_sub _ _ a ha with k | k
      · cases k
      · exact srt_pts a (List.mem_reverse.mp (List.mem_of_mem_take k))
    have hal := foldMax_len (r := fun a b => pLe (leOf rows) b a) ((srt rows m ps).reverse.take j) []
    have htl := List.length_take_le' j (srt rows m ps).reverse
    rw [List.length_reverse] at htl
    simp only [List.length_nil] at hal
    have step : foldMax (fun a b => pLe (leOf rows) b a) [] ((srt rows m ps).reverse.take (j + 1)) = if (foldMax (fun a b => pLe (leOf rows) b a) [] ((srt rows m ps).reverse.take j)).any (fun o => pLe (leOf rows) o p) = true then foldMax (fun a b => pLe (leOf rows) b a) [] ((srt rows m ps).reverse.take j) else foldMax (fun a b => pLe (leOf rows) b a) [] ((srt rows m ps).reverse.take j) ++ [p] := by
      unfold foldMax
      exact fold_take hpj
    have rL3 : rPts H3 (.ref L) (foldMax (fun a b => pLe (leOf rows) b a) [] ((srt rows m ps).reverse.take j)) := ⟨L, us, rfl, hL3, pmap ru fun _ _ r => up e3 r⟩
    refine Evl.s_if (Evl.et_not (Evl.et_B (any_map (lcD (R := rPt) (fun _ => true) (fun o => pLe (leOf rows) o p) gm_name (i_list (var rfl rL3)) (by omega) fun k o vo H5 ho e5 ro =>
      ⟨Ex.refl _, rfl, et_yes, fun _ => Ev.flat (lies_ (hacc o (List.mem_of_getElem? ho)) hpp h1 h3 ok (var rfl (up (e03.trans e5) r1)) (var rfl ro) (var rfl (up e5 rp)))⟩)))) (fun hb H4 e4 => ?_) fun hb H4 e4 => ?_
    · refine r_append (P := is rPt p) (e4 L _ hL3) (Evl.ev_var rfl) (var rfl (up e4 rp)) (by have := plen ru; omega) fun v5 H5 e5 r5 => ⟨⟨⟨_, _, rfl⟩, us ++ [v5], upd_same, ?_⟩, Ex.mut (((eh.trans e3).trans e4).trans e5) (hno L _ hn hL rfl)⟩
      rw [step, if_neg (by rw [Bool.not_eq_true'] at hb; rw [hb]; decide)]
      exact psnoc (pupd (e5 L _ (e4 L _ hL3)) (pmap ru fun _ _ r => up ((e3.trans e4).trans e5) r)) (upT (Tx.upd (e5 L _ (e4 L _ hL3)) (fun _ k => by cases k) fun _ _ k => by cases k) r5)
    · refine ⟨⟨⟨_, _, rfl⟩, us, e4 L _ hL3, ?_⟩, (eh.trans e3).trans e4⟩
      rw [step, if_pos (by simpa using hb)]
      exact pmap ru fun _ _ r => up (e3.trans e4) r
  · obtain ⟨⟨u, w', rfl⟩, us, hus, ru⟩ := hI
    rw [List.take_length] at ru
    show tRet (tRevL K (tVar 2)) { nx := fun _ H' => Q .non H', rt := Q } _ _
    refine r_ret (P := nw rPts (lows (leOf rows) (srt rows m ps))) ?_ fun v H2 e2 p => hq v H2 (eh.trans e2) (Dn.dn eh p)
    rw [← foldLow ok.good.grid srt_pts ((combos_sorted ok.good.nodup m).filter _)]
    exact revL (R := rPt) (var rfl (show rPts H' (.ref L) _ from ⟨L, us, rfl, hus, ru⟩))
end
end FM

/-! ## FComb -/
set_option Elab.async false
set_option linter.all false
set_option maxRecDepth 100000
set_option maxHeartbeats 2000000
/-! Highest common names and points. -/
namespace FM
open PySem PySem.Spec PyProof.Rows L2
open Evl (Ex EvT Ev)
theorem r_asg {σ : L2.St} {H : Hp} {te : TE} {D : Ends} {Pp : Hp → V → Hp → Prop} {i : Nat} (h : EvP te σ H Pp) (k : ∀ v H1, Ex H H1 → Pp H v H1 → D.nx (σ.set i (some v)) H1) : tAsg te (gName i) D σ H := h H (Ex.refl _) _ k
theorem EvP.nwE {σ : L2.St} {H : Hp} {te : TE} {β : Type} {R : Rdr β} {x y : β} (e : x = y) (h : EvP te σ H (nw R x)) : EvP te σ H (nw R y) := e ▸ h
theorem each_len {α : Type} [DecidableEq α] : ∀ {p : List α} {cs : List (List α)}, Each p cs → p.length = cs.length
  | _, _, .nil => rfl
  | _, _, .cons _ h => by rw [List.length_cons, List.length_cons, each_len h]
theorem zip_hc {α β : Type} (f : α → α → β) (d : α) : ∀ p q : List α, ((p.zip q).map fun z => [z.1, z.2]).map (fun l => f (l.getD 0 d) (l.getD 1 d)) = List.zipWith f p q
  | [], _ => rfl
  | _ :: _, [] => rfl
  | x :: p, y :: q => congrArg (f x y :: ·) (zip_hc f d p q)
section
variable {P : Program} {w : World} {K : PySem.W.Frag} {mg : Str → Option Value} {base : Heap}
/-- the method highest_common, bound -/
abbrev hcA (K : PySem.W.Frag) : Addr := He.ma K (He.ga K "Hierarchy") "highest_common"
theorem Txt.bm_hc (T : Txt K mg) : BMeth K (He.ga K "Hierarchy") "highest_common" (hcA K) := by
  have h := T.says.m
  unfold more at h
  obtain ⟨_, h⟩ := Bool.and_eq_true_iff.mp h
  obtain ⟨_, h⟩ := Bool.and_eq_true_iff.mp h
  obtain ⟨_, h⟩ := Bool.and_eq_true_iff.mp h
  obtain ⟨h1, h⟩ := Bool.and_eq_true_iff.mp h
  obtain ⟨h2, h3⟩ := Bool.and_eq_true_iff.mp h
  refine ⟨T.m_Hierarchy_highest_common, ?_, ?_, by decide, h3⟩
  · unfold eqG at h1
    split at h1
    · rename_i u e
      rw [e, of_decide_eq_true h1]
    · cases h1
  · unfold eqB at h2
    split at h2
    · rename_i e
      exact e
    · cases h2
abbrev HcI := {i : Rows Str × Str × Str // i.2.1 ∈ nms i.1 ∧ i.2.2 ∈ nms i.1 ∧ Rok i.1}
abbrev aHcS (K : PySem.W.Frag) (i : HcI) : List V → Hp → Prop := a3 (rH K) rStr (rTup rStr) i.1.1 i.1.2.1 [i.1.2.2]
abbrev aHc (K : PySem.W.Frag) (i : HcI) : List V → Hp → Prop := a3 (rH K) rStr rStr i.1.1 i.1.2.1 i.1.2.2
theorem hc_star {K : PySem.W.Frag} (i : HcI) (vs : List V) (H : Hp) (h : aHc K i vs H) : ∃ ws v, vs = ws ++ [v] ∧ ws.length = 2 ∧ ∀ p, H p = none → aHcS K i (ws ++ [.ref p]) (upd H p (.tup [v])) := by
  obtain ⟨u, v, w, e, r1, r2, r3⟩ := h
  exact ⟨[u, v], w, e, rfl, fun p hp => ⟨u, v, .ref p, rfl, up (Ex.new hp) r1, up (R := rStr) (Ex.new hp) r2, p, [w], rfl, upd_same, .cons (up (R := rStr) (Ex.new hp) r3) .nil⟩⟩
abbrev sp_hc : Sp := spOf (aHc K) fun (i : HcI) => nw (rLst rStr) (hc (nms i.1.1) (leOf i.1.1) i.1.2.1 i.1.2.2)
theorem ok_Hierarchy_highest_common (T : Txt K mg) (G_Hierarchy_require_class : GMt P w K mg base "Hierarchy" "require_class" 2 (sp_req (K := K))) (G_Hierarchy_descendants : GMt P w K mg base "Hierarchy" "descendants" 3 (sp_desc (K := K))) :
    GMtR P w K mg base "Hierarchy" "highest_common" (hcA K) 4 (sp_hc (K := K)) := by
  obtain ⟨fd, F⟩ := T.d_Hierarchy_highest_common
  have sc := (C8.fnScope_by (N := ["self", "first", "others", "common", "other", "name", "one"]) (P := ["self", "first", "others"]) (sc := defScope st_Hierarchy_highest_common) (by kernel_rfl))
  refine ⟨T.cls_Hierarchy, T.bm_hc, star1 (A := aHcS K) (ps := ["self", "first"]) (pv := "others") F sc (fun _ _ _ _ _ _ us r hl => match us, hl with | [_, _], _ => rfl) (fun _ => inferInstance) (fun i vs H h => hc_star i vs H h) ?_⟩
  intro cdv A outer s H E ⟨⟨rows, a, b⟩, ha, hb, ok⟩ vs Q hr ⟨v1, v2, v3, e, r1, r2, r3⟩ hq
  have nd := sc.nd
  have hu := u1 hr
  have hu64 := u64 hr
  subst e
  refine ⟨_, (PSs.nox (pss_cons (ps_set (i := 3) nd (by rfl) (by first | exact Or.inl rfl | exact Or.inr rfl) (kmeth G_Hierarchy_descendants hr (pv 0) (pa_cons (pv 1) pa_nil)))
      (pss_cons (ps_for PassesOwn.never (by rfl) (k_pit K (pv 2)) (pg_name (i := 4) nd (by rfl) (by first | exact Or.inl rfl | exact Or.inr rfl)) (pss_cons (ps_expr (kmeth G_Hierarchy_require_class hr (pv 0) (pa_cons (pv 4) pa_nil)))
      (pss_one (ps_set (i := 3) nd (by rfl) (by first | exact Or.inl rfl | exact Or.inr rfl) (pe_lc (own := [("name", 5)]) (by rfl) nd (k_pil K (pv 3)) (blkOk_by (by kernel_rfl)) (fun _ _ _ _ _ => (pg_name (i := 5) nd (by rfl) (by first | exact Or.inl rfl | exact Or.inr rfl))) (fun _ _ _ _ _ => (pts_one (pt_cmpR (k_in K) (pv 4) (pe_dget hu (k_fld K (pv 0)) (pv 5) (by intro _ _; rfl)) (by rfl)))) (fun _ _ _ _ _ => (pv 5)))))))
      (pss_one (ps_ret (pe_lc (own := [("name", 5)]) (by rfl) nd (k_pil K (pv 3)) (blkOk_by (by kernel_rfl)) (fun _ _ _ _ _ => (pg_name (i := 5) nd (by rfl) (by first | exact Or.inl rfl | exact Or.inr rfl))) (fun _ _ _ _ _ => (pts_one (pt_cmpR (k_eqD K hu64) (pe_lc (own := [("one", 6)]) (by rfl) nd (k_pil K (pe_dget hu (k_fld K (pv 0)) (pv 5) (by intro _ _; rfl))) (blkOk_by (by kernel_rfl)) (fun _ _ _ _ _ => (pg_name (i := 6) nd (by rfl) (by first | exact Or.inl rfl | exact Or.inr rfl))) (fun _ _ _ _ _ => (pts_one (pt_cmpR (k_in K) (pv 6) (pv 3) (by rfl)))) (fun _ _ _ _ _ => (pv 6))) (pe_lst (pa_cons (pv 5) pa_nil)) (nomark _)))) (fun _ _ _ _ _ => (pv 5)))))))), ?_⟩
  have hlen : (nms rows).length ≤ 20 := by unfold nms; rw [List.length_map]; exact ok.len
  refine r_set (P := nw (rLst rStr) ((nms rows).filter fun x => leOf rows x a)) (mcall_ (P := fun (i : DesI) => nw (rLst rStr) ((nms i.1.1).filter fun x => leOf i.1.1 x i.1.2)) (R := rH K) ⟨(rows, a), ha, ok.len⟩ (var rfl r1) (rH_ob fun _ _ => rfl) (ea1 (var (R := rStr) rfl r2)) m1) fun v H1 e1 ⟨C, ev, hn, rC⟩ => ?_
  subst ev
  let common := ((nms rows).filter fun x => leOf rows x a).filter fun x => leOf rows x b
  have hcl : common.length ≤ 20 := Nat.le_trans (List.length_filter_le _ _) (Nat.le_trans (List.length_filter_le _ _) hlen)
  have anc_ : ∀ {σ : L2.St} {H2 : Hp} {te : TE} {x : Str}, x ∈ nms rows → Ex H H2 → σ[0]? = some (some v1) → EvP te σ H2 (is rStr x) → EvP (tDGet (tFld K (tVar 0) "ancestors_by_class") te) σ H2 (is (rLst rStr) ((nms rows).filter fun y => leOf rows x y)) := fun {σ H2 te x} hx e hσ h => by
    obtain ⟨o, dx, ds, da, eo, ho, _, r5⟩ := up (R := rH K) e r1
    subst eo
    exact getS (R := rLst rStr) (ev_is (fld (Evl.ev_var hσ) ho T.cls_Hierarchy T.no_ancestors_by_class rfl) (rDicU.rd r5)) h (at_anc hx)
  refine sq (r_for (H := H) (j_tup (R := rStr) (var rfl (rTup.r r3))) e1 (fun j σ' H' => ∃ C u, σ' = [some v1, some v2, some v3, some (V.ref C), u, none, none] ∧ H C = none ∧ rLst rStr H' (.ref C) (if j = 0 then (nms rows).filter fun x => leOf rows x a else common))
    (fun H2 e2 => ⟨C, _, rfl, hn, up e2 rC⟩) (fun Hn en _ j σ' H' hj ⟨C, u, eσ, hC, rC⟩ eh v4 H3 e3 ⟨x, hx, rx⟩ => ?_) fun σ' H' ⟨C, u, eσ, hC, rC⟩ eh => ?_)
  · subst eσ
    have hj0 : j = 0 := by simpa using hj
    subst hj0
    have hxb : x = b := by simpa using hx.symm
    subst hxb
    rw [if_pos rfl] at rC
    have e03 := (en.trans eh).trans e3
    refine sq (r_drop (mcall_ (P := fun (_ : HasI) => isNon) (R := rH K) ⟨(rows, x), hb⟩ (var rfl (up e03 r1)) (rH_ob fun _ _ => rfl) (ea1 (var (R := rStr) rfl rx)) m1) fun _ H4 e4 _ => ?_)
    dsimp only
    have e04 := e03.trans e4
    refine (show _ from lcF (R := rStr) (R' := rStr) (xs := (nms rows).filter fun x => leOf rows x a) (fun y => leOf rows y x) gm_name (i_list (var rfl (up (e3.trans e4) rC))) (by have := List.length_filter_le (fun x => leOf rows x a) (nms rows); omega) ?_) H4 (Ex.refl _) _ fun v5 H5 e5 ⟨C2, ev, hC2, rC2⟩ => ⟨⟨C2, some v4, by subst ev; rfl, Evl.fresh_back e04 hC2, rC2⟩, ((eh.trans e3).trans e4).trans e5⟩
    intro k y vy H5 hy e5 ry
    have hyn : y ∈ nms rows := (List.mem_filter.mp (List.mem_of_getElem? hy)).1
    refine ⟨Ex.refl _, rfl, Evl.et_is (Evl.et_test (inL (var rfl rx) (anc_ hyn (e04.trans e5) rfl (var rfl ry)))) (isIn_fil hb), fun _ => (var rfl ry).flatI⟩
  · subst eσ
    have rC : rLst rStr H' (.ref C) common := rC
    dsimp only
    refine r_ret (P := nw (rLst rStr) (hc (nms rows) (leOf rows) a b)) ?_ fun v H2 e2 p => hq v H2 (eh.trans e2) (Dn.dn eh p)
    refine lcF (R := rStr) (xs := common) (fun x => decide (((nms rows).filter fun y => leOf rows x y).filter (fun y => isIn y common) = [x])) gm_name (i_list (var rfl rC)) (by omega) ?_
    intro k x vx H2 hx e2 rx
    have hxn : x ∈ nms rows := (List.mem_filter.mp (List.mem_filter.mp (List.mem_of_getElem? hx)).1).1
    refine ⟨Ex.refl _, rfl, Evl.et_test (eqD (R := rLst rStr) (by decide) (EvP.of_nw (lcF (R := rStr) (xs := (nms rows).filter fun y => leOf rows x y) (fun y => isIn y common) gm_name (i_list (anc_ hxn (eh.trans e2) rfl (var rfl rx))) (by have := List.length_filter_le (fun y => leOf rows x y) (nms rows); omega) ?_)) (EvP.of_nw (lst_ (pa1 (var rfl rx) pa0) (Nat.le_add_left 1 _)))), fun _ => (var rfl rx).flatI⟩
    intro k2 y vy H3 hy e3 ry
    exact ⟨Ex.refl _, rfl, Evl.et_test (inL (var rfl ry) (var rfl (up (e2.trans e3) rC))), fun _ => (var rfl ry).flatI⟩
/-- some names, at most three times -/
abbrev CbI := {cs : List (List Str) // cs.length ≤ 3 ∧ ∀ c ∈ cs, c.length ≤ 20}
abbrev sp_combined : Sp := spOf (fun (i : CbI) => a1 (rLst (rLst rStr)) i.1) fun i => nw rPts (FM.combined i.1)
theorem comb_len {cs : List (List Str)} (h : ∀ c ∈ cs, c.length ≤ 20) : ∀ j, ((cs.take j).foldl (fun found ns => found.flatMap fun p => ns.map fun x => p ++ [x]) [[]]).length ≤ 20 ^ j
  | 0 => by simp
  | j + 1 => by
    have ih := comb_len h j
    cases q : cs[j]? with
    | none => 
      rw [List.take_add_one, q]
      simp only [Option.toList_none, List.append_nil]
      exact Nat.le_trans ih (Nat.pow_le_pow_right (by decide) (Nat.le_succ j))
    | some c =>
      rw [fold_take q, List.length_flatMap]
      have hc := h c (List.mem_of_getElem? q)
      have : ∀ l : List (List Str), (l.map fun p => (c.map fun x => p ++ [x]).length).sum ≤ l.length * 20 := fun l => by
        induction l with
        | nil => simp
        | cons a l ih =>
          rw [List.map_cons, List.sum_cons, List.length_cons, List.length_map]
          omega
      have h2 := this ((cs.take j).foldl (fun found ns => found.flatMap fun p => ns.map fun x => p ++ [x]) [[]])
      rw [Nat.pow_succ]
      omega
theorem ok_combined (T : Txt K mg) : GFn P w K mg base "combined" 1 sp_combined := by
  obtain ⟨fd, F⟩ := T.d_combined
  have sc := (C8.fnScope_by (N := ["choices", "found", "names", "point", "name"]) (P := ["choices"]) (sc := defScope st_combined) (by kernel_rfl))
  refine gfn T.g_combined F sc (F.bindsN fun _ _ _ _ _ _ us hl => match us, hl with | [_], _ => rfl) (fun i vs H ⟨_, e, _⟩ => by rw [e]; rfl) ?_
  intro cdv A outer s H E ⟨cs, h3, hc⟩ vs Q hr ⟨v1, e, r1⟩ hq
  have nd := sc.nd
  subst e
  refine ⟨_, (PSs.nox (pss_cons (ps_set (i := 1) nd (by rfl) (by first | exact Or.inl rfl | exact Or.inr rfl) (pe_lst (pa_cons (pe_tup pa_nil) pa_nil)))
      (pss_cons (ps_for PassesOwn.never (by rfl) (k_pil K (pv 0)) (pg_name (i := 2) nd (by rfl) (by first | exact Or.inl rfl | exact Or.inr rfl)) (pss_one (ps_setLc2 (i := 1) (own := [("point", 3), ("name", 4)]) (vs1 := [4]) (by rfl) nd (by rfl) (by rfl) (sw_true (by rfl) (by rfl) (by rfl) (by kernel_rfl)) (k_pil K (pv 1)) (blkOk_by (by kernel_rfl)) (by decide) (fun _ _ _ _ _ => (pg_name (i := 3) nd (by rfl) (by first | exact Or.inl rfl | exact Or.inr rfl))) (fun _ _ _ _ _ => pts_nil) (fun _ _ _ _ _ => (k_pil K (pv 2))) (fun _ _ _ _ _ => (pg_name (i := 4) nd (by rfl) (by first | exact Or.inl rfl | exact Or.inr rfl))) (fun _ _ _ _ _ => pts_nil) (fun _ _ _ _ _ => (pe_op (k_catA K) (pv 3) (pe_tup (pa_cons (pv 4) pa_nil)))))))
      (pss_one (ps_ret (pv 1)))))), ?_⟩
  refine r_set (lst_ (R := rPt) (pa1 (EvP.of_nw (tup_ (R := rStr) pa0 (by decide))) pa0) (by decide)) fun v H1 e1 ⟨L, ev, hn, r0⟩ => ?_
  subst ev
  refine sq (r_for (H := H) (j_list (R := rLst rStr) (Evl.ev_var rfl) r1) e1
    (fun j σ' H' => ∃ L u a b, σ' = [some v1, some (V.ref L), u, a, b] ∧ H L = none ∧ rPts H' (.ref L) ((cs.take j).foldl (fun found ns => found.flatMap fun p => ns.map fun x => p ++ [x]) [[]]))
    (fun H2 e2 => ⟨L, _, _, _, rfl, hn, up e2 r0⟩) (fun Hn en hno j σ' H' hj hI eh v H3 e3 hy => ?_) fun σ' H' hI eh => ?_)
  · obtain ⟨L, u, a, b, rfl, hL, rL⟩ := hI
    obtain ⟨c, hcj, rc⟩ := hy
    have hj : j < cs.length := hj
    have hcj : cs[j]? = some c := hcj
    have hl := comb_len hc j
    have hl2 := comb_len hc (j + 1)
    have hj3 : j + 1 ≤ 3 := by omega
    have hp2 : (20 : Nat) ^ (j + 1) ≤ 20 ^ 3 := Nat.pow_le_pow_right (by decide) hj3
    have hp3 : (20 : Nat) ^ 3 = 8000 := by decide
    have hl3 : ((((cs.take j).foldl (fun found ns => found.flatMap fun p => ns.map fun x => p ++ [x]) [[]])).flatMap fun p => c.map fun x => p ++ [x]).length ≤ 8000 := by
      have := fold_take (f := fun found ns => found.flatMap fun p => ns.map fun x => p ++ [x]) (a := [[]]) hcj
      rw [← this]
      omega
    refine r_asg (lc2M (R := rPt) (S := rStr) (R' := rPt) (ysf := fun _ => c) (fun p x => p ++ [x]) gm_name gm_name (i_list (var rfl (up e3 rL))) (by omega) ?_ (fun t r => upT t r)) fun v5 H5 e5 ⟨G, ev, hG, rG⟩ => ⟨⟨G, some v, _, _, by subst ev; rfl, Evl.fresh_back ((en.trans eh).trans e3) hG, by rw [fold_take hcj]; subst ev; exact rG⟩, (eh.trans e3).trans e5⟩
    intro k p vp H4 hp e4 rp
    have hpl : p.length ≤ 3 := by
      obtain ⟨a, ha, r, hr, e⟩ := mem_comb.mp (List.mem_of_getElem? hp)
      rw [List.mem_singleton.mp ha] at e
      have h1 := each_len hr
      have h2 := List.length_take_le' j cs
      rw [List.length_take] at h1
      rw [e, List.nil_append, h1]
      omega
    refine ⟨Ex.refl _, rfl, et_yes, (j_list (R := rStr) (Evl.ev_var rfl) rc), ?_⟩
    intro k2 x vx H5 hx e5 rp5 rx
    exact ⟨Ex.refl _, rfl, et_yes, EvP.flatI (cat_t (R := rStr) (var rfl rp5) (EvP.of_nw (tup_ (pa1 (var rfl rx) pa0) (Nat.le_add_left 1 _))) (by simp; omega))⟩
  · obtain ⟨L, u, a, b, rfl, hL, rL⟩ := hI
    rw [List.take_length] at rL
    exact r_retV (Evl.ev_var rfl) fun H2 e2 => hq _ _ (eh.trans e2) ⟨L, rfl, hL, up e2 rL⟩
abbrev sp_hcp : Sp := spOf (aPlain K) fun i => nw rPts (hcp (nms i.rows) (leOf i.rows) i.p i.q)
theorem ok_highest_common_points (T : Txt K mg) (G_require_alike_points : GFnR P w K mg base "require_alike_points" 4 (sp_alike (K := K))) (G_combined : GFn P w K mg base "combined" 1 sp_combined)
    (G_Hierarchy_highest_common : GMtR P w K mg base "Hierarchy" "highest_common" (hcA K) 4 (sp_hc (K := K))) : GFnR P w K mg base "highest_common_points" 5 (sp_hcp (K := K)) := by
  obtain ⟨fd, F⟩ := T.d_highest_common_points
  have sc := (C8.fnScope_by (N := ["hierarchy", "first", "others", "names"]) (P := ["hierarchy", "first", "others"]) (sc := defScope st_highest_common_points) (by kernel_rfl))
  refine gfnS (A := aStar K) (ps := ["hierarchy", "first"]) (pv := "others") T.g_highest_common_points F sc (fun _ _ _ _ _ _ us r hl => match us, hl with | [_, _], _ => rfl) (fun _ => inferInstance) (fun i vs H h => plain_star i vs H h) ?_
  intro cdv A outer s H E ⟨rows, m, p, q, hp, hq', h1, h3, ok⟩ vs Q hr ⟨v1, v2, v3, e, r1, r2, r3⟩ hq
  have nd := sc.nd
  subst e
  refine ⟨_, (PSs.nox (pss_cons (ps_expr (kcallS G_require_alike_points hr (pa_cons (pv 0) (pa_cons (pv 1) (k_star K (pv 2) pa_nil)))))
      (pss_one (ps_ret (kcall G_combined hr (pa_cons (pe_lc (own := [("names", 3)]) (by rfl) nd (FZ.pi_zip1 (K := K) T.zip (pa_cons (pv 1) (k_star K (pv 2) pa_nil))) (blkOk_by (by kernel_rfl)) (fun _ _ _ _ _ => (pg_name (i := 3) nd (by rfl) (by first | exact Or.inl rfl | exact Or.inr rfl))) (fun _ _ _ _ _ => pts_nil) (fun _ _ _ _ _ => (kmethS G_Hierarchy_highest_common hr (pv 0) (pv 3)))) pa_nil)))))), ?_⟩
  have hlen : (nms rows).length ≤ 20 := by unfold nms; rw [List.length_map]; exact ok.len
  refine sq (r_drop (callR_ (P := fun (_ : TwI) => isNon) ⟨rows, m, p, q, hp, hq', h1, h3, ok⟩ ((EvAs.cons (var (R := rH K) rfl r1) (EvAs.cons (var (R := rPt) rfl r2) (star_ (v := fun _ _ => True) (R := rPt) (var rfl (rTup.r r3)) .nil))).imp fun vs H1 _ ⟨a, r, e, ra, b, t, e2, rb, c, e3, rc⟩ => ⟨a, b, c, by rw [e, e2, e3], ra, rb, rc⟩)) fun _ H1 e1 _ => ?_)
  have hz : (p.zip q).length ≤ 3 := by have := hp.1; have := List.length_zip (l₁ := p) (l₂ := q); omega
  have hcs : (List.zipWith (hc (nms rows) (leOf rows)) p q).length ≤ 3 ∧ ∀ c ∈ List.zipWith (hc (nms rows) (leOf rows)) p q, c.length ≤ 20 := by
    refine ⟨by rw [List.length_zipWith]; have := hp.1; omega, fun c h => ?_⟩
    rw [← zip_hc (hc (nms rows) (leOf rows)) default p q] at h
    obtain ⟨l, _, rfl⟩ := List.mem_map.mp h
    exact Nat.le_trans (List.length_filter_le _ _) (Nat.le_trans (List.length_filter_le _ _) (Nat.le_trans (List.length_filter_le _ _) hlen))
  dsimp only
  refine r_ret (P := nw rPts (hcp (nms rows) (leOf rows) p q)) (call_ (P := fun (i : CbI) => nw rPts (FM.combined i.1)) ⟨_, hcs⟩ (ea1 (R := rLst (rLst rStr)) (EvP.of_nw ?_))) fun v H2 e2 z => hq v H2 (e1.trans e2) (Dn.dn e1 z)
  refine EvP.nwE (zip_hc (hc (nms rows) (leOf rows)) default p q) (lcM (R := rTup rStr) (R' := rLst rStr) (xs := (p.zip q).map fun z => [z.1, z.2]) (fun l => hc (nms rows) (leOf rows) (l.getD 0 default) (l.getD 1 default)) gm_name (by rw [List.length_map]; exact i_zip1 (K := K) (R := rStr) (ta := tCons (tVar 1) (StX.tStar K (tVar 2) tNil)) ((EvAs.cons (var (R := rPt) rfl (up e1 r2)) (star_ (v := fun _ _ => True) (R := rPt) (var rfl (rTup.r (up e1 r3))) .nil)).imp fun vs H1 _ ⟨a, r, e, ra, b, e2, rb⟩ => ⟨a, b, by rw [e, e2], ra, rb⟩)) (by rw [List.length_map]; omega) (fun k l vl H2 hx e2 rl => ?_))
  · obtain ⟨z, hz2, rfl⟩ := List.mem_map.mp (List.mem_of_getElem? hx)
    have hzm := List.of_mem_zip hz2
    exact ⟨Ex.refl _, rfl, et_yes, EvP.freshI (mcallS_ (P := fun (i : HcI) => nw (rLst rStr) (hc (nms i.1.1) (leOf i.1.1) i.1.2.1 i.1.2.2)) (R := rH K) (S := rStr) ⟨(rows, z.1, z.2), hp.2 _ hzm.1, hq'.2 _ hzm.2, ok⟩ (var rfl (up (e1.trans e2) r1)) (rH_ob fun _ _ => rfl) (var rfl (rTup.r rl)) fun v vs H3 rv rs => by
      cases rs with
      | cons a t => cases t with
        | cons b t => cases t with
          | nil => exact ⟨_, _, _, rfl, rv, a, b⟩)⟩
end
end FM

/-! ## FBody -/
set_option Elab.async false
set_option linter.all false
set_option maxRecDepth 100000
set_option maxHeartbeats 2000000
/-! Names, steps, bodies. -/
namespace FM
open PySem PySem.Spec PyProof.Rows L2
open Evl (Ex EvT Ev)
abbrev abc : Str := "abcdefghijklmnopqrstuvwxyz"
theorem ok_abc : sOk abc := by unfold sOk; decide +kernel
/-- one to eight small letters -/
structure NameOk (s : Str) : Prop where
  lo : 1 ≤ s.length
  hi : s.length ≤ 8
  low : ∀ c ∈ s.cps.toList, c ∈ abc.cps.toList
theorem idx_lt {σ : Type} [DecidableEq σ] {nx : σ} {b : List σ} (h : nx ∈ b) : b.idxOf nx < b.length := List.idxOf_lt_length_iff.mpr h
/-- one sign -/
def rSign : Rdr Nat := fun _ v c => v = .str ⟨#[c]⟩
instance : Mono rSign := ⟨fun _ h => h⟩
theorem i_signs {σ : L2.St} {H : Hp} {te : TE} {s : Str} (h : Ev te σ H (.str s)) : EvI (iStr te) σ H s.cps.toList.length (ith rSign s.cps.toList) := by
  have z := i_str h
  rw [← Array.length_toList] at z
  exact fun H1 e Q q => z H1 e Q fun J H2 e2 w => q J H2 e2 ⟨w.go, fun i H3 x H4 hi e3 y => let ⟨e4, c, hc, hx⟩ := w.yld i H3 x H4 hi e3 y; ⟨e4, c, by rw [Array.getElem?_toList]; exact hc, hx⟩, w.stop⟩
section
variable {P : Program} {w : World} {K : PySem.W.Frag} {mg : Str → Option Value} {base : Heap}
abbrev sp_is_name : Sp := spOf (fun (i : {s : Str // NameOk s}) => a1 rStr i.1) fun _ => is rBool true
theorem ok_is_name (T : Txt K mg) : GFn P w K mg base "is_name" 1 sp_is_name := by
  obtain ⟨fd, F⟩ := T.d_is_name
  have sc := (C8.fnScope_by (N := ["value", "character"]) (P := ["value"]) (sc := defScope st_is_name) (by kernel_rfl))
  refine gfn T.g_is_name F sc (F.bindsN fun _ _ _ _ _ _ us hl => match us, hl with | [_], _ => rfl) (fun i vs H ⟨_, e, _⟩ => by rw [e]; rfl) ?_
  intro cdv A outer s H E ⟨x, ⟨lo, hi, low⟩⟩ vs Q hr ⟨v1, e, r1⟩ hq
  have nd := sc.nd
  subst e
  refine ⟨_, (PSs.nox (pss_cons (ps_if (PW.pt (pw_or (pt_not (pt_val (pe_callB (k_isi K) (by rfl) T.isinstance (by decide +kernel) (pa_cons (pv 0) (pa_cons (pe_bltn (v := .ty "str") (by rfl) T.str (by decide +kernel) rfl) pa_nil))))) (pw_or1 (pt_not (pt_chain op_le op_le pe_int (pe_callB (k_len K) (by rfl) T.len (by decide +kernel) (pa_cons (pv 0) pa_nil)) (pgI T.g_MAX_NAME_LENGTH)))))) (pss_one (ps_ret pe_bl)) pss_nil)
      (pss_one (ps_ret (pe_callB (k_all K) (by rfl) T.all (by decide +kernel) (pa_cons (pe_lc (own := [("character", 1)]) (by rfl) nd (pi_str (pv 0)) (blkOk_by (by kernel_rfl)) (fun _ _ _ _ _ => (pg_name (i := 1) nd (by rfl) (by first | exact Or.inl rfl | exact Or.inr rfl))) (fun _ _ _ _ _ => pts_nil) (fun _ _ _ _ _ => (pe_cmpR op_in_sign (pv 1) (pgS T.g_LETTERS) (by rfl)))) pa_nil)))))), ?_⟩
  have hx : Ev (tVar 0) [some v1, none] H (.str x) := strV (var (R := rStr) rfl r1)
  refine r_not (Evl.et_is (Evl.et_or (Evl.et_not (Evl.et_B (isi_s hx))) fun _ => Evl.et_not (Evl.et_test (chainI (g := fun i j => decide (i ≤ j)) (g' := fun i j => decide (i ≤ j)) Evl.ev_c (len_s (Nat.le_trans hi (by decide +kernel)) hx) Evl.ev_c))) ?_) fun H1 e1 => ?_
  · rw [decide_eq_true (show (1 : Int) ≤ (x.length : Nat) by omega), decide_eq_true (show ((x.length : Nat) : Int) ≤ 8 by omega)]
    rfl
  refine r_ret (P := is rBool true) ?_ fun v H2 e2 z => hq v H2 (e1.trans e2) z
  have e : (x.cps.toList.all fun c => decide (c ∈ abc.cps.toList)) = true := List.all_eq_true.mpr fun c h => decide_eq_true (low c h)
  rw [← e]
  refine Ev.b (all_map (lcD (R := rSign) (fun _ => true) (fun c => decide (c ∈ abc.cps.toList)) gm_name (i_signs (fun H2 a Q q => hx H2 (e1.trans a) Q q)) (Nat.le_trans hi (by decide)) ?_))
  intro j c v H2 hx e2 rc
  exact ⟨Ex.refl _, rfl, et_yes, fun _ => Ev.flat (Evl.ev_op (Evl.ev_var (show _ = some (some v) from rfl)) Evl.ev_c (by rw [show v = .str ⟨#[c]⟩ from rc]; exact fun H3 _ Q3 q3 => ⟨c, abc, rfl, rfl, q3 H3 (Ex.refl _)⟩))⟩
/-- the words of a step -/
def words : List Str := ["a", "b", "cc"]
theorem word_ok {w : Str} (h : w ∈ words) : NameOk w ∧ sOk w := by
  unfold words at h
  rcases List.mem_cons.mp h with rfl | h
  · exact ⟨⟨by decide +kernel, by decide +kernel, by decide +kernel⟩, by unfold sOk; decide +kernel⟩
  rcases List.mem_cons.mp h with rfl | h
  · exact ⟨⟨by decide +kernel, by decide +kernel, by decide +kernel⟩, by unfold sOk; decide +kernel⟩
  rw [List.mem_singleton.mp h]
  exact ⟨⟨by decide +kernel, by decide +kernel, by decide +kernel⟩, by unfold sOk; decide +kernel⟩
def StepOk (s : List Str) : Prop := s = nxt ∨ ∃ w ∈ words, s = [("say" : Str), w]
theorem ok_say : sOk "say" := by unfold sOk; decide +kernel
abbrev sp_is_step : Sp := spOf (fun (i : {s : List Str × Int // StepOk s.1}) => a2 rPt rInt i.1.1 i.1.2) fun _ => is rBool true
theorem ok_is_step (T : Txt K mg) (G_is_name : GFn P w K mg base "is_name" 1 sp_is_name) : GFn P w K mg base "is_step" 2 sp_is_step := by
  obtain ⟨fd, F⟩ := T.d_is_step
  have sc := (C8.fnScope_by (N := ["value", "count"]) (P := ["value", "count"]) (sc := defScope st_is_step) (by kernel_rfl))
  refine gfn T.g_is_step F sc (F.bindsN fun _ _ _ _ _ _ us hl => match us, hl with | [_, _], _ => rfl) (fun i vs H ⟨_, _, e, _⟩ => by rw [e]; rfl) ?_
  intro cdv A outer s H E ⟨⟨x, c⟩, hx⟩ vs Q hr ⟨v1, v2, e, r1, r2⟩ hq
  have nd := sc.nd
  have hu64 := u64 hr
  subst e
  refine ⟨_, (PSs.nox (pss_cons (ps_if (pt_not (pt_val (pe_callB (k_isi K) (by rfl) T.isinstance (by decide +kernel) (pa_cons (pv 0) (pa_cons (pe_bltn (v := .ty "tuple") (by rfl) T.tuple (by decide +kernel) rfl) pa_nil))))) (pss_one (ps_ret pe_bl)) pss_nil)
      (pss_cons (ps_if (pt_cmpR op_eq (pe_callB (k_len K) (by rfl) T.len (by decide +kernel) (pa_cons (pv 0) pa_nil)) pe_int (nomark _)) (pss_one (ps_ret (pe_and (pe_cmpR op_eq (pe_ix (k_ixT K) (pv 0) pe_int (by intro _ _; rfl)) (pgS T.g_SAY) (nomark _)) (pe_one (kcall G_is_name hr (pa_cons (pe_ix (k_ixT K) (pv 0) pe_int (by intro _ _; rfl)) pa_nil)))))) pss_nil)
      (pss_cons (ps_if (pt_cmpR op_eq (pe_callB (k_len K) (by rfl) T.len (by decide +kernel) (pa_cons (pv 0) pa_nil)) pe_int (nomark _)) (pss_one ps_never) pss_nil)
      (pss_one (ps_ret (pe_cmpR (k_eqD K hu64) (pv 0) (pgR T.g_NEXT_STEP) (nomark _)))))))), ?_⟩
  have r1 : rPt H v1 x := r1
  refine r_not (Evl.et_not (Evl.et_B (isi_t (var rfl (rTup.r r1))))) fun H1 e1 => ?_
  rcases hx with hx | ⟨w, hw, hx⟩
  · have hx : x = nxt := hx
    refine r_not (Evl.et_is (Evl.et_test (Evl.ev_op (len_t (var rfl (rTup.r (up e1 r1)))) Evl.ev_c (Evl.rv_eq rfl))) (show decide (V.int (x.length : Nat) = V.int 2) = false by rw [hx]; decide +kernel)) fun H2 e2 => ?_
    refine r_not (Evl.et_is (Evl.et_test (Evl.ev_op (len_t (var rfl (rTup.r (up (e1.trans e2) r1)))) Evl.ev_c (Evl.rv_eq rfl))) (show decide (V.int (x.length : Nat) = V.int 3) = false by rw [hx]; decide +kernel)) fun H3 e3 => ?_
    refine r_ret (P := is rBool true) ?_ fun v H4 e4 z => hq v H4 (((e1.trans e2).trans e3).trans e4) z
    have e : decide (x = nxt) = true := decide_eq_true hx
    rw [← e]
    exact Ev.b (eqK (by decide) nxt_ok (var rfl (up ((e1.trans e2).trans e3) r1)) T.nxt_)
  · have hx : x = [("say" : Str), w] := hx
    subst hx
    obtain ⟨hn, hs⟩ := word_ok hw
    refine r_if (Evl.et_is (Evl.et_test (Evl.ev_op (len_t (var rfl (rTup.r (up e1 r1)))) Evl.ev_c (Evl.rv_eq rfl))) (show decide (V.int (2 : Nat) = V.int 2) = true by decide +kernel)) (fun _ H2 e2 => ?_) fun q => by cases q
    dsimp only
    refine r_ret (P := is rBool true) (Ev.b (b := true) ?_) fun v H3 e3 z => hq v H3 ((e1.trans e2).trans e3) z
    exact andB (a := true) (b := true) (Evl.ev_is (eqS (ixT (j := 0) (var rfl (up (e1.trans e2) r1)) Evl.ev_c rfl) (const ok_say)) (by decide +kernel)) fun _ => bool_ (call_ (P := fun (_ : {s : Str // NameOk s}) => is rBool true) ⟨w, hn⟩ (ea1 (ixT (R := rStr) (j := 1) (var rfl (up (e1.trans e2) r1)) Evl.ev_c rfl)))
/-- where the next step stands -/
abbrev nIx (b : List (List Str)) : Nat := @List.idxOf (List Str) instBEqOfDecidableEq nxt b
/-- a body of a method -/
structure BodOk (b : List (List Str)) : Prop where
  steps : ∀ s ∈ b, StepOk s
  one : b.countP (fun y => decide (y = nxt)) ≤ 1
  short : b.length ≤ 3
abbrev sp_is_body : Sp := spOf (fun (i : {s : List (List Str) × Int // BodOk s.1}) => a2 rBodyN rInt i.1.1 i.1.2) fun _ => is rBool true
theorem ok_is_body (T : Txt K mg) (G_is_step : GFn P w K mg base "is_step" 2 sp_is_step) : GFn P w K mg base "is_body" 3 sp_is_body := by
  obtain ⟨fd, F⟩ := T.d_is_body
  have sc := (C8.fnScope_by (N := ["value", "count", "step"]) (P := ["value", "count"]) (sc := defScope st_is_body) (by kernel_rfl))
  refine gfn T.g_is_body F sc (F.bindsN fun _ _ _ _ _ _ us hl => match us, hl with | [_, _], _ => rfl) (fun i vs H ⟨_, _, e, _⟩ => by rw [e]; rfl) ?_
  intro cdv A outer s H E ⟨⟨b, c⟩, ⟨hst, h1, hl⟩⟩ vs Q hr ⟨v1, v2, e, r1, r2⟩ hq
  have nd := sc.nd
  have hu65 := u65 hr
  subst e
  refine ⟨_, (PSs.nox (pss_cons (ps_if (PW.pt (pw_or (pt_not (pt_val (pe_callB (k_isi K) (by rfl) T.isinstance (by decide +kernel) (pa_cons (pv 0) (pa_cons (pe_bltn (v := .ty "tuple") (by rfl) T.tuple (by decide +kernel) rfl) pa_nil))))) (pw_or1 (pt_not (pt_val (pe_callB (k_all K) (by rfl) T.all (by decide +kernel) (pa_cons (pe_lc (own := [("step", 2)]) (by rfl) nd (k_pit K (pv 0)) (blkOk_by (by kernel_rfl)) (fun _ _ _ _ _ => (pg_name (i := 2) nd (by rfl) (by first | exact Or.inl rfl | exact Or.inr rfl))) (fun _ _ _ _ _ => pts_nil) (fun _ _ _ _ _ => (kcall G_is_step hr (pa_cons (pv 2) (pa_cons (pv 1) pa_nil))))) pa_nil))))))) (pss_one (ps_ret pe_bl)) pss_nil)
      (pss_one (ps_ret (pe_cmpR op_le (k_tm PySem.F.slot_tuple_count PySem.F.type_tuple_count (k_count K hu65) (pv 0) (pa_cons (pgR T.g_NEXT_STEP) pa_nil)) pe_int (nomark _)))))), ?_⟩
  have r1 : rBodyN H v1 b := r1
  have hl : b.length ≤ 3 := hl
  have h1 : b.countP (fun y => decide (y = nxt)) ≤ 1 := h1
  have ea : (b.all fun _ => true) = true := List.all_eq_true.mpr fun _ _ => rfl
  refine r_not (Evl.et_is (Evl.et_or (Evl.et_not (Evl.et_B (isi_t (var rfl r1).tn))) fun _ => Evl.et_not (Evl.et_B (all_map (lcD (R := rPt) (fun _ => true) (fun _ => true) gm_name (i_tup (var rfl r1).tn) (by omega) fun j x v H2 hx e2 rx =>
    ⟨Ex.refl _, rfl, et_yes, fun _ => Ev.flat (bool_ (call_ (P := fun (_ : {s : List Str × Int // StepOk s.1}) => is rBool true) ⟨(x, c), hst x (List.mem_of_getElem? hx)⟩ (ea2 (R := rPt) (S := rInt) (var rfl rx) (var rfl (up e2 r2)))))⟩)))) (by rw [ea]; rfl)) fun H1 e1 => ?_
  refine r_ret (P := is rBool true) (Ev.b (b := true) ?_) fun v H2 e2 z => hq v H2 (e1.trans e2) z
  have e : decide (((b.countP fun y => decide (y = nxt) : Nat) : Int) ≤ 1) = true := decide_eq_true (by omega)
  rw [← e]
  exact Evl.ev_op (countT (by decide) nxt_ok (var rfl (up e1 r1)) T.nxt_) Evl.ev_c Evl.rv_I0
abbrev sp_has_next : Sp := spOf (fun (i : List (List Str)) => a1 rBody i) fun i => is rBool (isIn nxt i)
theorem ok_has_next_step (T : Txt K mg) : GFn P w K mg base "has_next_step" 1 sp_has_next := by
  obtain ⟨fd, F⟩ := T.d_has_next_step
  have sc := (C8.fnScope_by (N := ["body"]) (P := ["body"]) (sc := defScope st_has_next_step) (by kernel_rfl))
  refine gfn T.g_has_next_step F sc (F.bindsN fun _ _ _ _ _ _ us hl => match us, hl with | [_], _ => rfl) (fun i vs H ⟨_, e, _⟩ => by rw [e]; rfl) ?_
  intro cdv A outer s H E b vs Q hr ⟨v1, e, r1⟩ hq
  have nd := sc.nd
  have hu65 := u65 hr
  subst e
  refine ⟨_, (PSs.nox (pss_one (ps_ret (pe_cmpR (k_inDT K hu65) (pgR T.g_NEXT_STEP) (pv 0) (by rfl))))), ?_⟩
  exact r_ret (P := is rBool (isIn nxt b)) (Ev.b (inDTup (by decide) nxt_ok T.nxt_ (var rfl r1))) hq
abbrev sp_repl : Sp := spOf (fun (i : {b : List (List Str) × List (List Str) // b.1.length ≤ 3 ∧ b.2.length ≤ 1000}) => a2 rBodyN rBody i.1.1 i.1.2) fun i => is rBody (replaceNext nxt i.1.1 i.1.2)
theorem ok_replace_next (T : Txt K mg) (G_has_next_step : GFn P w K mg base "has_next_step" 1 sp_has_next) : GFn P w K mg base "replace_next" 2 sp_repl := by
  obtain ⟨fd, F⟩ := T.d_replace_next
  have sc := (C8.fnScope_by (N := ["body", "steps", "place"]) (P := ["body", "steps"]) (sc := defScope st_replace_next) (by kernel_rfl))
  refine gfn T.g_replace_next F sc (F.bindsN fun _ _ _ _ _ _ us hl => match us, hl with | [_, _], _ => rfl) (fun i vs H ⟨_, _, e, _⟩ => by rw [e]; rfl) ?_
  intro cdv A outer s H E ⟨⟨b, st⟩, hb, hs⟩ vs Q hr ⟨v1, v2, e, r1, r2⟩ hq
  have nd := sc.nd
  have hu65 := u65 hr
  subst e
  refine ⟨_, (PSs.nox (pss_cons (ps_if (pt_not (pt_val (kcall G_has_next_step hr (pa_cons (pv 0) pa_nil)))) (pss_one (ps_ret (pv 0))) pss_nil)
      (pss_cons (ps_set (i := 2) nd (by rfl) (by first | exact Or.inl rfl | exact Or.inr rfl) (k_tm PySem.F.slot_tuple_index PySem.F.type_tuple_index (k_index' K hu65) (pv 0) (pa_cons (pgR T.g_NEXT_STEP) pa_nil)))
      (pss_one (ps_ret (pe_op (k_catA K) (pe_op (k_catA K) (pe_slice (k_slA K) (pv 0) po_none (po_some (pv 2))) (pv 1)) (pe_slice (k_slA K) (pv 0) (po_some (pe_op op_add (pv 2) pe_int)) po_none))))))), ?_⟩
  have r1 : rBodyN H v1 b := r1
  have r2 : rBody H v2 st := r2
  have hb : b.length ≤ 3 := hb
  have hs : st.length ≤ 1000 := hs
  have hq : ∀ v H', Ex H H' → rBody H' v (replaceNext nxt b st) → Q v H' := hq
  refine r_if (Evl.et_not (Evl.et_B (bool_ (call_ (P := fun (i : List (List Str)) => is rBool (isIn nxt i)) b (ea1 (R := rBody) (var rfl r1).tn))))) (fun q H1 e1 => ?_) fun q H1 e1 => ?_
  · have hn : nxt ∉ b := isIn_not.mp (by simpa using q)
    dsimp only
    refine r_retV (Evl.ev_var rfl) fun H2 e2 => hq _ _ (e1.trans e2) ?_
    unfold replaceNext
    rw [if_neg hn]
    exact rTupN.r (up (e1.trans e2) r1)
  · have hn : nxt ∈ b := isIn_iff.mp (by simpa using q)
    refine r_setV (indexT (by decide) hn nxt_ok (var rfl (up e1 r1)) T.nxt_) fun H2 e2 => ?_
    refine r_ret (P := is rBody (replaceNext nxt b st)) ?_ fun v H3 e3 z => hq v H3 ((e1.trans e2).trans e3) z
    unfold replaceNext
    rw [if_pos hn]
    have hlt : nIx b < b.length := idx_lt hn
    refine cat_tR (cat_tR (slT_hi (R := rPt) (var rfl (up (e1.trans e2) r1)).tn (Evl.ev_var rfl)) (var rfl (up (e1.trans e2) r2)) ?_) (slT_lo (R := rPt) (m := nIx b + 1) (var rfl (up (e1.trans e2) r1)).tn (Evl.ev_op (Evl.ev_var rfl) Evl.ev_c Evl.rv_I0)) ?_
    · rw [List.length_take]; omega
    · rw [List.length_append, List.length_take, List.length_drop]; omega
end
end FM

/-! ## FEnum -/
set_option Elab.async false
set_option linter.all false
set_option maxRecDepth 100000
set_option maxHeartbeats 2000000
/-! enumerate over a tuple, in the room of the rules: its call, each turn, the end. -/
namespace FE
open PySem PySem.Spec PyProof.Rows L2
theorem newCall_one (a : Value) : checkBuiltinCall "enumerate.__new__" ⟨[.type "enumerate", a], []⟩ = pure () := by kernel_rfl
theorem new_one {v : Value} {o : Obj} {Hh : Heap → Prop} (B : Begins v o Hh) :
    Meets (Builtin.«enumerate.__new__» ⟨[.type "enumerate", v], []⟩) (fun _ R s => Hh s.heap ∧ R (.ok (.ret (.ref (s.heap.push o).objs.size)))
      { s with heap := (s.heap.push o).push { cls := .type "enumerate", data := .fields #[.none, .bool false, .ref s.heap.objs.size, rawInt 0, .none, .none] } }) := by
  refine .of_wp fun prog w A R s h => ?_
  obtain ⟨hp, g, d, tk, os⟩ := s
  obtain ⟨hb, h⟩ := h
  have sub := sub_enumerate
  have q : ∀ {A' : Around} {E Q : Value → Shared → Prop}, Q (.ref hp.objs.size) ⟨hp.push o, g, d, tk, os⟩ → wpAny (model prog w) A' (pyIter v) Q E ⟨hp, g, d, tk, os⟩ := fun z => B.iter prog w _ _ ⟨hp, g, d, tk, os⟩ _ hb z
  wp_walk using q
  refine wpAny_stack_any fun _ => wpAny_pure ?_
  split
  · rename_i c _ _ _ _ _
    cases (c == Value.type "enumerate") <;>
    · wp_walk using q
      exact ⟨_, rfl, h⟩
  · wp_walk using q
    exact ⟨_, rfl, h⟩
/-- enumerate(v): two new cells -/
theorem call_one {prog : Program} {w : World} {A : Around} {E : Value → Shared → Prop} {s : Shared} {v : Value} {o : Obj} {Hh : Heap → Prop} {Q : Value → Shared → Prop} (B : Begins v o Hh) (hb : Hh s.heap)
    (h : ∀ g, IsEnum g (s.heap.objs.size + 1) s.heap.objs.size 0 .none → g.get? s.heap.objs.size = some o → (∀ b z, s.heap.get? b = some z → g.get? b = some z) → Q (.ref (s.heap.objs.size + 1)) { s with heap := g }) :
    wpAny (model prog w) A (call (.type "enumerate") [v]) Q E s := by
  refine callType_new F.called_enumerate (by decide) (F.typeCall_enumerate_1 _) (newCall_one _) (fun obj => F.args_object_init_2 obj _) F.entry_enumerate_new (new_one B) ⟨hb, ?_⟩
  have hz : (s.heap.push o).objs.size = s.heap.objs.size + 1 := Heap.size_push ..
  show _ ∧ _
  rw [hz]
  have he : ((s.heap.push o).push { cls := .type "enumerate", data := .fields #[.none, .bool false, .ref s.heap.objs.size, rawInt 0, .none, .none] }).get? (s.heap.objs.size + 1) = some { cls := .type "enumerate", data := .fields #[.none, .bool false, .ref s.heap.objs.size, rawInt 0, .none, .none] } := by
    rw [← hz]
    exact Heap.get?_push_size _ rfl
  exact ⟨⟨_, he, rfl⟩, h _ he (Heap.get?_push_of_some _ (Heap.get?_push_size _ B.free)) fun b z x => Heap.get?_push_of_some _ (Heap.get?_push_of_some _ x)⟩
/-- the items of a tuple, each with its place in a new pair -/
def ItT (K : PySem.W.Frag) (a : Addr) : It where
  go i H := ∃ (xs : List V) (x : V), SqT K H a xs ∧ xs[i]? = some x
  yld i H v H' := ∃ T x, v = .ref T ∧ H T = none ∧ H' = upd H T (.tup [.int (i : Nat), x]) ∧ ∀ xs, SqT K H a xs → xs[i]? = some x
  stop i H := ∃ xs : List V, SqT K H a xs ∧ xs.length = i
theorem turn_T {P : Program} {w : World} {K : PySem.W.Frag} {elts : List Expr} {kk : Nat} {tpos : Pos} (a e it : Addr) :
    Turn P w K (.Tuple elts kk tpos) (ItT K a) [e, it] e (fun i h => (∃ old, IsEnum h e it ((i : Nat) : Int) old) ∧ h.IsTupleIter it a i ∧ e ≠ it ∧ a ≠ it ∧ a ≠ e) where
  mem := by simp
  obj := fun i h st b hb => by
    obtain ⟨⟨old, he⟩, ⟨o, ho, _, hd⟩, _⟩ := st
    rcases (show b = e ∨ b = it by simpa using hb) with rfl | rfl
    · exact ⟨_, he, fun v q => nomatch q⟩
    · exact ⟨o, ho, fun v q => by rw [hd] at q; cases q⟩
  keep := fun i h h' st k => let ⟨⟨old, he⟩, hi, hne⟩ := st; ⟨⟨old, k e (by simp) _ he⟩, hi.at fun o q => k it (by simp) o q, hne⟩
  item := by
    rintro X rfl rfl rfl hc i pins s σ H E I hf ⟨⟨old, he⟩, hit, h1, h2, h3⟩ ⟨xs, x, hq, hx⟩
    obtain ⟨us, ru, pu, _⟩ := I.tuple hq
    obtain ⟨u, hu, rx⟩ := ru.get hx
    have D := Draws.tuple (prog := X.prog) (w := X.w) (A := X.A.in1) (I.ok.hd hc) it a h2 us.toArray
    have hlt : i < us.toArray.size := by
      have := (List.getElem?_eq_some_iff.mp hu).1
      simpa using this
    have le : e < s.heap.objs.size := Heap.lt_size he
    have li : it < s.heap.objs.size := by obtain ⟨_, q, _⟩ := hit; exact Heap.lt_size q
    refine wpAny_pyNext_enum_itemD D he ⟨hit, pu⟩ hlt h1 (by simp; exact ⟨h1, fun z => h3 z.symm⟩) fun y g tk hy ho hst hT hsz hk => ?_
    have ey : y = u := by
      have hu' : us.toArray[i]? = some u := by simpa using hu
      rw [hu'] at hy
      exact (Option.some.inj hy).symm
    subst ey
    refine ⟨_, rfl, wpAny_letOwnedTupleGo_enum (s := { s with heap := g, toks := tk + 1 }) ho fun g2 he2 sb => ?_⟩
    have hT2 : g2.get? s.heap.objs.size = some { cls := .type "tuple", data := .seq #[.int i tk, y] } := (sb.2 _ (Nat.ne_of_gt le)).trans hT
    have new : ObjOk X.prog X.w (upd H s.heap.objs.size (.tup [.int (i : Nat), x])) g2 s.heap.objs.size (.tup [.int (i : Nat), x]) := ⟨by show 2 ≤ sizeLine; decide, [.int i tk, y], .cons ⟨_, rfl⟩ (.cons rx .nil), _, hT2, rfl, _, rfl⟩
    have J : Inv X pins σ (upd H s.heap.objs.size (.tup [.int (i : Nat), x])) { s with heap := g2, toks := tk + 1 } :=
      I.turnedNew (ch := [e, it]) (fun b o hb q => (sb.2 b (fun z => hb (by simp [z]))).trans (hk b o (fun z => hb (by simp [z])) (fun z => hb (by simp [z])) q)) hf (Nat.le_refl _) new
    refine ⟨.ref s.heap.objs.size, _, J, rfl, ⟨_, x, rfl, I.hok.fresh (Nat.le_refl _), rfl, fun l hl => by rw [I.tuple_inj hl hq]; exact hx⟩, ⟨⟨y, ?_⟩, hst.1.at fun o q => (sb.2 it (Ne.symm h1)).trans q, h1, h2, h3⟩, fun b hb => ?_⟩
    · rw [show ((i + 1 : Nat) : Int) = (i : Int) + 1 by omega]
      exact he2
    · have hb' : b < s.heap.objs.size := by
        rcases (show b = e ∨ b = it by simpa using hb) with rfl | rfl
        · exact le
        · exact li
      rw [upd_ne (Nat.ne_of_lt hb')]
      exact (hf b hb).1
  done := by
    rintro X rfl rfl rfl hc i pins s σ H E I hf ⟨⟨old, he⟩, hit, h1, h2, h3⟩ ⟨xs, hq, hx⟩
    obtain ⟨us, ru, pu, _⟩ := I.tuple hq
    have D := Draws.tuple (prog := X.prog) (w := X.w) (A := X.A.in1) (I.ok.hd hc) it a h2 us.toArray
    obtain ⟨f0, f1, f2, f3, f4, f5⟩ := hf it (by simp)
    have e2 : us.toArray.size = i := by have := ru.length; simp; omega
    refine wpAny_pyNext_enum_endD D he ⟨by rw [e2]; exact hit, pu⟩ fun g eb => ⟨rfl, I.turned (t' := s.toks) (fun b o hb q => eb b o hb q) f0 f1 f3 f4 f5⟩
  self := fun A i s Q E st h => let ⟨⟨_, he⟩, _⟩ := st; wpAny_pyIter_enum he h
def iEnumT (K : PySem.W.Frag) (ta : TA) : L2.TI := fun σ H R => ta σ H fun vs H1 => ∃ a xs, vs = [.ref a] ∧ SqT K H1 a xs ∧ R (ItT K a) H1
theorem k_enumT {X : Cx} (K : PySem.W.Frag) {e : Expr} {ta : TA} {p pos tpos : Pos} {elts : List Expr} {kk : Nat} (hm : X.mg "enumerate" = none) (ha : PA X [e] ta) (hg : Gl X "enumerate" := by rfl) (hs : starEach [e] X.env = [(false, eval e X.env)] := by rfl) (ek : X.K = K := by rfl) :
    PI X (.Tuple elts kk tpos) (.Call (.Name "enumerate" p) [e] [] pos) (iEnumT K ta) := by
  subst ek
  refine ⟨fun pins s σ H R I h => Call_ (ld_blt I hg hm boot_enumerate (PyProof.Rows.callWith_type1 (thn (ha.run pos pins s σ H _ I h) fun us s1 ⟨vs, H1, I1, r1, a, xs, ex, hq, q⟩ => ?_) hs rfl))⟩
  subst ex
  cases r1 with
  | cons r rr =>
    cases rr
    cases r
    obtain ⟨ws, rw', pw, _⟩ := I1.tuple hq
    obtain ⟨o, ho, _⟩ := id pw
    have la : a < s1.heap.objs.size := Heap.lt_size ho
    refine call_one (begins_tuple a ws.toArray) pw fun g he hi hk => wpAny_pyIter_enum he ?_
    have J : Inv X pins σ H1 { s1 with heap := g } := I1.kept (t' := s1.toks) hk
    refine ⟨s1.heap.objs.size + 1, [s1.heap.objs.size + 1, s1.heap.objs.size], _, _, H1, rfl, J, turn_T a (s1.heap.objs.size + 1) s1.heap.objs.size, ⟨⟨.none, he⟩, ⟨_, hi, rfl, rfl⟩, Nat.succ_ne_self _, Nat.ne_of_lt la, Nat.ne_of_lt (Nat.lt_succ_of_lt la)⟩, fun b hb => ?_, q⟩
    have hle : s1.heap.objs.size ≤ b := by
      rcases (show b = s1.heap.objs.size + 1 ∨ b = s1.heap.objs.size by simpa using hb) with z | z <;> rw [z]
      · exact Nat.le_add_right _ _
      · exact Nat.le_refl _
    exact I1.fpOk hle (I1.hok.fresh hle)
end FE
namespace FM
open PySem PySem.Spec PyProof.Rows L2
open Evl (Ex EvT Ev)
/-- the places and items of a tuple -/
theorem j_enumT {K : PySem.W.Frag} {σ : L2.St} {H : Hp} {tl : TE} {β : Type} {R : Rdr β} [Mono R] {xs : List β} {v : V} (h : Ev tl σ H v) (r : rTupR R H v xs) : EvJ (FE.iEnumT K (tCons tl tNil)) σ H xs.length (fun i v H => ∃ x, xs[i]? = some x ∧ rPair rInt R H v ((i : Int), x)) := fun H1 e Q q => by
  obtain ⟨a, vs, ev, hv, r⟩ := r
  subst ev
  refine h H1 e _ fun H2 e2 => ⟨a, vs, rfl, .inl (Evl.ex_rd e2 (Evl.ex_rd e hv)), q _ H2 (hov H H1 H2) e2 (hov_old e e2) (hov_le e e2) hov_only ⟨fun i H3 hi e3 => ?_, fun i H3 x H4 hi e3 y => ?_, fun H3 e3 => ?_⟩⟩
  · have hl : i < vs.length := by rw [plen r]; exact hi
    exact ⟨vs, vs[i], .inl (Evl.ex_rd e3 (Evl.ex_rd (hov_old e e2) hv)), List.getElem?_eq_getElem hl⟩
  · obtain ⟨T, x1, ex, hT, eh, y⟩ := y
    subst ex eh
    obtain ⟨b, hb, rb⟩ := pget r (y vs (.inl (Evl.ex_rd e3 (Evl.ex_rd (hov_old e e2) hv))))
    exact ⟨Ex.new hT, b, hb, T, _, _, rfl, upd_same, rfl, up (((hov_old e e2).trans e3).trans (Ex.new hT)) rb⟩
  · exact ⟨vs, .inl (Evl.ex_rd e3 (Evl.ex_rd (hov_old e e2) hv)), plen r⟩
end FM

/-! ## FInit -/
set_option Elab.async false
set_option linter.all false
set_option maxRecDepth 100000
set_option maxHeartbeats 2000000
/-! Rows of a hierarchy are checked; the ancestors of a new class. -/
namespace FM
open PySem PySem.Spec PyProof.Rows L2
open Evl (Ex EvT Ev)
section
variable {P : Program} {w : World} {K : PySem.W.Frag} {mg : Str → Option Value} {base : Heap}
/-- different names, all known -/
structure DfI where
  (p : List Str) (d : Rows Str) (nd : p.Nodup) (inn : ∀ x ∈ p, x ∈ nms d) (hl : p.length ≤ 20)
abbrev sp_diff : Sp := spOf (fun (i : DfI) => a2 rPt (rDic rPt) i.p i.d) fun _ => is rBool true
theorem ok_are_different_classes (T : Txt K mg) : GFn P w K mg base "are_different_classes" 1 sp_diff := by
  obtain ⟨fd, F⟩ := T.d_are_different_classes
  have sc := (C8.fnScope_by (N := ["value", "known", "position", "name"]) (P := ["value", "known"]) (sc := defScope st_are_different_classes) (by kernel_rfl))
  refine gfn T.g_are_different_classes F sc (F.bindsN fun _ _ _ _ _ _ us hl => match us, hl with | [_, _], _ => rfl) (fun i vs H ⟨_, _, e, _⟩ => by rw [e]; rfl) ?_
  intro cdv A outer s H E ⟨p, d, ndp, inn, hl⟩ vs Q hr ⟨v1, v2, e, r1, r2⟩ hq
  have nd := sc.nd
  have hu := u1 hr
  subst e
  refine ⟨_, (PSs.nox (pss_cons (ps_if (pt_not (pt_val (pe_callB (k_isi K) (by rfl) T.isinstance (by decide +kernel) (pa_cons (pv 0) (pa_cons (pe_bltn (v := .ty "tuple") (by rfl) T.tuple (by decide +kernel) rfl) pa_nil))))) (pss_one (ps_ret pe_bl)) pss_nil)
      (pss_cons (ps_for PassesOwn.never (by rfl) (FE.k_enumT K T.enumerate (pa_cons (pv 0) pa_nil)) (k_gtup K (n := 2) (pgs_cons (pg_name (i := 2) nd (by rfl) (by first | exact Or.inl rfl | exact Or.inr rfl)) (pgs_cons (pg_name (i := 3) nd (by rfl) (by first | exact Or.inl rfl | exact Or.inr rfl)) pgs_nil))) (pss_one (ps_if (PW.pt (pw_or (pt_not (pt_val (pe_callB (k_isi K) (by rfl) T.isinstance (by decide +kernel) (pa_cons (pv 3) (pa_cons (pe_bltn (v := .ty "str") (by rfl) T.str (by decide +kernel) rfl) pa_nil))))) (pw_or (pt_cmp (pc_dnotin hu (pv 3) (pv 1))) (pw_or1 (pt_cmpR (k_in K) (pv 3) (pe_slice (k_slA K) (pv 0) po_none (po_some (pv 2))) (by rfl)))))) (pss_one (ps_ret pe_bl)) pss_nil)))
      (pss_one (ps_ret pe_bl))))), ?_⟩
  have r1 : rPt H v1 p := r1
  have r2 : rDic rPt H v2 d := r2
  refine r_not (Evl.et_not (Evl.et_B (isi_t (var rfl (rTup.r r1))))) fun H1 e1 => ?_
  refine sq (r_for (H := H) (j_enumT (R := rStr) (Evl.ev_var rfl) (rTup.r r1)) e1 (fun j σ' H' => ∃ u w, σ' = [some v1, some v2, u, w]) (fun _ _ => ⟨_, _, rfl⟩) (fun Hn en _ j σ' H' hj ⟨u, w, eσ⟩ eh v4 H3 e3 ⟨x, hx, a, y1, y2, ev, ha, ri, ry⟩ => ?_) fun σ' H' ⟨u, w, eσ⟩ eh => ?_)
  · subst eσ ev
    have ri : y1 = .int (j : Int) := ri
    refine ⟨a, _, rfl, .inl (.inl ha), rfl, y1, _, rfl, y2, _, rfl, rfl, ?_⟩
    have e03 := (en.trans eh).trans e3
    have hxk : isIn x (d.map (·.1)) = true := isIn_iff.mpr (inn x (List.mem_of_getElem? hx))
    have hxn : isIn x (p.take j) = false := isIn_not.mpr fun hm => by
      obtain ⟨k, hk⟩ := List.mem_iff_getElem?.mp hm
      rw [List.getElem?_take] at hk
      split at hk
      · rename_i hlt
        have h1 := (List.getElem?_eq_some_iff.mp hk).2
        have h2 := (List.getElem?_eq_some_iff.mp hx).2
        exact List.pairwise_iff_getElem.mp ndp k j _ _ hlt (h1.trans h2.symm)
      · cases hk
    refine r_notL (Evl.et_is (Evl.et_or (Evl.et_not (Evl.et_B (isi_s (strV (var (R := rStr) rfl ry))))) fun _ => Evl.et_or (Evl.et_test (notInS (var rfl ry) (var (R := rDic rPt) rfl (up e03 r2)))) fun _ => Evl.et_test (inTup (var rfl ry) (slT_hi (R := rStr) (m := j) (var rfl (rTup.r (up e03 r1))) (by subst ri; exact Evl.ev_var rfl)))) ?_) fun H4 e4 => ⟨⟨_, _, rfl⟩, (eh.trans e3).trans e4⟩
    rw [hxk, hxn]
    rfl
  · subst eσ
    dsimp only
    exact r_retV Evl.ev_c fun H2 e2 => hq _ _ (eh.trans e2) rfl
structure EpI where
  (r : Str × List Str) (d : Rows Str) (nm : NameOk r.1) (new : r.1 ∉ nms d) (nd : r.2.Nodup) (inn : ∀ x ∈ r.2, x ∈ nms d) (hl : r.2.length ≤ 20)
abbrev sp_elem : Sp := spOf (fun (i : EpI) => a2 (rPair rStr rPt) (rDic rPt) i.r i.d) fun _ => isNon
theorem ok_element_problem (T : Txt K mg) (G_is_name : GFn P w K mg base "is_name" 1 sp_is_name) (G_are_different_classes : GFn P w K mg base "are_different_classes" 1 sp_diff) : GFn P w K mg base "element_problem" 2 sp_elem := by
  obtain ⟨fd, F⟩ := T.d_element_problem
  have sc := (C8.fnScope_by (N := ["element", "known", "name", "superclasses"]) (P := ["element", "known"]) (sc := defScope st_element_problem) (by kernel_rfl))
  refine gfn T.g_element_problem F sc (F.bindsN fun _ _ _ _ _ _ us hl => match us, hl with | [_, _], _ => rfl) (fun i vs H ⟨_, _, e, _⟩ => by rw [e]; rfl) ?_
  intro cdv A outer s H E ⟨⟨x, p⟩, d, nm, new, ndp, inn, hl⟩ vs Q hr ⟨v1, v2, e, r1, r2⟩ hq
  have nd := sc.nd
  have hu := u1 hr
  subst e
  refine ⟨_, (PSs.nox (pss_cons (ps_if (PW.pt (pw_or (pt_not (pt_val (pe_callB (k_isi K) (by rfl) T.isinstance (by decide +kernel) (pa_cons (pv 0) (pa_cons (pe_bltn (v := .ty "tuple") (by rfl) T.tuple (by decide +kernel) rfl) pa_nil))))) (pw_or1 (pt_cmpR op_ne (pe_callB (k_len K) (by rfl) T.len (by decide +kernel) (pa_cons (pv 0) pa_nil)) pe_int (nomark _))))) (pss_one (ps_ret pe_str)) pss_nil)
      (pss_cons (ps_asg (pv 0) (k_gtup K (n := 2) (pgs_cons (pg_name (i := 2) nd (by rfl) (by first | exact Or.inl rfl | exact Or.inr rfl)) (pgs_cons (pg_name (i := 3) nd (by rfl) (by first | exact Or.inl rfl | exact Or.inr rfl)) pgs_nil))))
      (pss_cons (ps_if (pt_not (pt_val (kcall G_is_name hr (pa_cons (pv 2) pa_nil)))) (pss_one (ps_ret pe_str)) pss_nil)
      (pss_cons (ps_if (pt_cmp (pc_din hu (pv 2) (pv 1))) (pss_one (ps_ret pe_str)) pss_nil)
      (pss_one (ps_ret (pe_ifExp (pt_val (kcall G_are_different_classes hr (pa_cons (pv 3) (pa_cons (pv 1) pa_nil)))) pe_non pe_str)))))))), ?_⟩
  have r1 : rPair rStr rPt H v1 (x, p) := r1
  have r2 : rDic rPt H v2 d := r2
  have new : x ∉ nms d := new
  refine r_not (Evl.et_is (Evl.et_or (Evl.et_not (Evl.et_B (isi_p (var rfl r1)))) fun _ => Evl.et_test (Evl.ev_op (len_p (var rfl r1)) Evl.ev_c (Evl.rv_ne rfl))) (show _ = false by decide +kernel)) fun H1 e1 => ?_
  obtain ⟨a, y1, y2, ev, ha, rx, rp⟩ := up e1 r1
  subst ev
  have r2 := up (R := rDic rPt) e1 r2
  refine sq (show tAsg _ _ _ _ _ from (Evl.ev_var (v := V.ref a) rfl) H1 (Ex.refl _) _ fun H2 e2 => ?_)
  refine ⟨a, _, rfl, .inl (.inl (e2 a _ ha)), rfl, y1, _, rfl, y2, _, rfl, rfl, ?_⟩
  dsimp only
  refine r_not (Evl.et_not (Evl.et_B (bool_ (call_ (P := fun (_ : {s : Str // NameOk s}) => is rBool true) ⟨x, nm⟩ (ea1 (R := rStr) (var (R := rStr) rfl (up (R := rStr) e2 rx))))))) fun H3 e3 => ?_
  refine r_not (Evl.et_is (Evl.et_test (inS (var rfl (up (R := rStr) (e2.trans e3) rx)) (var (R := rDic rPt) rfl (up (R := rDic rPt) (e2.trans e3) r2)))) (isIn_not.mpr new)) fun H4 e4 => ?_
  exact r_ret (P := isNon) (if_ (b := true) (Evl.et_B (bool_ (call_ (P := fun (_ : DfI) => is rBool true) ⟨p, d, ndp, inn, hl⟩ (ea2 (R := rPt) (S := rDic rPt) (var (R := rPt) rfl (up (R := rPt) ((e2.trans e3).trans e4) rp)) (var (R := rDic rPt) rfl (up (R := rDic rPt) ((e2.trans e3).trans e4) r2)))))) (fun _ => .of_ev Evl.ev_c fun _ _ _ _ => rfl) fun q => by cases q) fun v H5 e5 z => hq v H5 ((((e1.trans e2).trans e3).trans e4).trans e5) z
/-- an instance under way: the superclasses held while they are walked, the first k ancestors there -/
def rHq (K : PySem.W.Frag) : Rdr (Rows Str × Nat) := fun H v i => ∃ a dx ds da o kvs, v = .ref a ∧ H a = some (.ins (He.ga K "Hierarchy") dx (fsH ds da)) ∧ (H ds = some (.frz o (.dK kvs)) ∧ Paired (fun (kv : Key × V) z => (kv.1 = kS z.1 ∧ sOk z.1) ∧ rPt H kv.2 z.2) kvs i.1) ∧ rDicU (rLst rStr) H (.ref da) ((ancs i.1).take i.2)
instance {K : PySem.W.Frag} : Mono (rHq K) := ⟨fun e ⟨a, dx, ds, da, o, kvs, h1, h2, ⟨h3, h5⟩, h4⟩ => ⟨a, dx, ds, da, o, kvs, h1, e a _ h2, ⟨e ds _ h3, pmap h5 fun _ _ r => ⟨r.1, up (R := rPt) e r.2⟩⟩, up e h4⟩⟩
theorem rHq_ob {K : PySem.W.Frag} {i : Rows Str × Nat} {m : Str} (h : ∀ ds da, (fsH ds da).lookup m = none) : ∀ {H : Hp} {v : V}, rHq K H v i → ∃ a dx fs, v = .ref a ∧ H a = some (.ins (He.ga K "Hierarchy") dx fs) ∧ fs.lookup m = none := fun ⟨a, dx, ds, da, _, _, h1, h2, _, _⟩ => ⟨a, dx, _, h1, h2, h ds da⟩
structure AnoI where
  (rows : Rows Str) (k : Nat) (r : Str × List Str) (hk : rows[k]? = some r) (ok : Rok rows)
abbrev sp_ano : Sp := spOf (fun (i : AnoI) => a2 (rHq K) rStr (i.rows, i.k) i.r.1) fun i => nw (rLst rStr) ((nms i.rows).filter fun y => leOf i.rows i.r.1 y)
theorem at_take {rows : Rows Str} {k : Nat} {s : Str} (h : s ∈ nms (rows.take k)) : at? ((ancs rows).take k) s = some ((nms rows).filter fun y => leOf rows s y) := by
  have e : (ancs rows).take k = (rows.take k).map fun r => (r.1, (nms rows).filter fun y => leOf rows r.1 y) := by
    unfold ancs
    rw [List.map_take]
  have h2 : s ∈ ((ancs rows).take k).map (·.1) := by
    rw [e, List.map_map]
    exact h
  obtain ⟨v, e2, hm⟩ := at?_some h2
  rw [e2]
  rw [e] at hm
  obtain ⟨r, _, hr⟩ := List.mem_map.mp hm
  cases hr
  rfl
/-- what is gathered from above -/
abbrev gath (rows : Rows Str) (x : Str) (l : List Str) : List Str := x :: l.flatMap fun s => (nms rows).filter fun y => leOf rows s y
theorem gath_len {rows : Rows Str} (h : (nms rows).length ≤ 20) (x : Str) : ∀ l : List Str, (gath rows x l).length ≤ 1 + 20 * l.length
  | [] => by simp
  | s :: l => by
    have ih := gath_len h x l
    have := List.length_filter_le (fun y => leOf rows s y) (nms rows)
    simp only [gath, List.flatMap_cons, List.length_cons, List.length_append] at ih ⊢
    omega
theorem ok_Hierarchy_ancestors_of_new (T : Txt K mg) : GMt P w K mg base "Hierarchy" "ancestors_of_new" 1 (sp_ano (K := K)) := by
  obtain ⟨fd, F⟩ := T.d_Hierarchy_ancestors_of_new
  have sc := (C8.fnScope_by (N := ["self", "name", "found", "superclass", "known"]) (P := ["self", "name"]) (sc := defScope st_Hierarchy_ancestors_of_new) (by kernel_rfl))
  refine gmt T.cls_Hierarchy T.m_Hierarchy_ancestors_of_new F sc (F.bindsN fun _ _ _ _ _ _ us hl => match us, hl with | [_, _], _ => rfl) (fun i vs H ⟨_, _, e, _⟩ => by rw [e]; rfl) ?_
  intro cdv A outer s H E ⟨rows, k, ⟨x, p⟩, hk, ok⟩ vs Q hr ⟨v1, v2, e, ⟨a, dx, ds, da, od, kvs, ea, ha, ⟨hds, rkv⟩, rda⟩, r2⟩ hq
  have nd := sc.nd
  have hu := u1 hr
  subst e ea
  refine ⟨_, (PSs.nox (pss_cons (ps_set (i := 2) nd (by rfl) (by first | exact Or.inl rfl | exact Or.inr rfl) (pe_lst (pa_cons (pv 1) pa_nil)))
      (pss_cons (ps_for PassesOwn.never (by rfl) (k_pit K (pe_dget hu (k_fld K (pv 0)) (pv 1) (by intro _ _; rfl))) (pg_name (i := 3) nd (by rfl) (by first | exact Or.inl rfl | exact Or.inr rfl)) (pss_one (ps_expr (k_bm K PySem.F.plainAttrs_list PySem.F.slot_list_extend PySem.F.type_list_extend mt_extend (pv 2) (pa_cons (pe_dget hu (k_fld K (pv 0)) (pv 3) (by intro _ _; rfl)) pa_nil)))))
      (pss_one (ps_ret (pe_lc (own := [("known", 4)]) (by rfl) nd (pi_keys (k_fld K (pv 0))) (blkOk_by (by kernel_rfl)) (fun _ _ _ _ _ => (pg_name (i := 4) nd (by rfl) (by first | exact Or.inl rfl | exact Or.inr rfl))) (fun _ _ _ _ _ => (pts_one (pt_cmpR (k_in K) (pv 4) (pv 2) (by rfl)))) (fun _ _ _ _ _ => (pv 4)))))))), ?_⟩
  have r2 : rStr H v2 x := r2
  have hmem : (x, p) ∈ rows := List.mem_of_getElem? hk
  have hlen : (nms rows).length ≤ 20 := by unfold nms; rw [List.length_map]; exact ok.len
  have hsup : p.length ≤ 20 := ok.sup _ hmem
  have split : rows = rows.take k ++ (x, p) :: rows.drop (k + 1) := by
    have h2 := (List.getElem?_eq_some_iff.mp hk).2
    rw [← h2, List.getElem_cons_drop, List.take_append_drop]
  have hin := (ok.good.take split).2.1
  have rds : rDic rPt H (.ref ds) rows := ⟨ds, kvs, rfl, .inr ⟨od, hds⟩, rkv⟩
  have ds_ : ∀ {σ : L2.St} {H2 : Hp}, Ex H H2 → σ[0]? = some (some (V.ref a)) → Ev (tFld K (tVar 0) "superclasses_by_class") σ H2 (.ref ds) := fun {σ H2} e hσ => fld (Evl.ev_var hσ) (e a _ ha) T.cls_Hierarchy T.no_superclasses_by_class rfl
  have hat : at? rows x = some p := at?_mem ok.good.nodup hmem
  refine r_set (lst_ (R := rStr) (pa1 (var rfl r2) pa0) (Nat.le_add_left 1 _)) fun v H1 e1 ⟨L, ev, hn, b, vs0, eb, hL, rL⟩ => ?_
  subst ev
  cases eb
  refine sq (r_for (H := H) (j_tup (R := rStr) (EvP.tr (getS (R := rPt) (ev_is (ds_ (Ex.refl _) rfl) rds) (var rfl r2) hat))) e1
    (fun j σ' H' => (∃ u w', σ' = [some (V.ref a), some v2, some (V.ref L), u, w']) ∧ ∃ us, H' L = some (.lst us) ∧ Paired (rStr H') us (gath rows x (p.take j)))
    (fun H2 e2 => ⟨⟨_, _, rfl⟩, vs0, e2 L _ hL, pmap rL fun _ _ r => r⟩) (fun Hn en hno j σ' H' hj hI eh v3 H3 e3 hy => ?_) fun σ' H' hI eh => ?_)
  · obtain ⟨⟨u, w', rfl⟩, us, hus, ru⟩ := hI
    obtain ⟨y, hpj, ry⟩ := hy
    have e03 := (en.trans eh).trans e3
    have hg := gath_len hlen x (p.take j)
    have hpl := List.length_take_le' j p
    have hfl := List.length_filter_le (fun z => leOf rows y z) (nms rows)
    refine r_extend (R := rStr) (xs := (nms rows).filter fun z => leOf rows y z) (e3 L _ hus) (Evl.ev_var rfl) (getS (R := rLst rStr) (ev_is (fld (Evl.ev_var rfl) (e03 a _ ha) T.cls_Hierarchy T.no_ancestors_by_class rfl) (rDicU.rd (up e03 rda))) (var rfl ry) (at_take (hin y (List.mem_of_getElem? hpj)))) (by have := plen ru; omega) fun ws H4 e4 rw' => ⟨⟨⟨_, _, rfl⟩, us ++ ws, upd_same, ?_⟩, Ex.mut ((eh.trans e3).trans e4) (hno L _ hn hL rfl)⟩
    have : gath rows x (p.take (j + 1)) = gath rows x (p.take j) ++ (nms rows).filter fun z => leOf rows y z := by
      rw [List.take_add_one, hpj]
      simp [gath]
    rw [this]
    exact papp (pmap ru fun _ _ r => r) (pmap rw' fun _ _ r => r)
  · obtain ⟨⟨u, w', rfl⟩, us, hus, ru⟩ := hI
    rw [List.take_length] at ru
    dsimp only
    refine r_ret (P := nw (rLst rStr) ((nms rows).filter fun y => leOf rows x y)) ?_ fun v H2 e2 z => hq v H2 (eh.trans e2) (Dn.dn eh z)
    have rkv' : Paired (fun (kv : Key × V) z => (kv.1 = kS z.1 ∧ sOk z.1) ∧ rPt H' kv.2 z.2) kvs rows := pmap rkv fun _ _ r => ⟨r.1, up (R := rPt) eh r.2⟩
    refine lcF (R := rStr) (xs := nms rows) (fun y => leOf rows x y) gm_name (by rw [show (nms rows).length = rows.length from List.length_map _]; exact i_keysS (ds_ eh rfl) (eh ds _ hds) rkv') (by omega) ?_
    intro k2 y vy H3 hy e3 ry
    refine ⟨Ex.refl _, rfl, Evl.et_is (Evl.et_test (inL (var rfl ry) (var rfl (show rLst rStr H3 (.ref L) (gath rows x p) from ⟨L, us, rfl, e3 L _ hus, ru⟩)))) ?_, fun _ => (var rfl ry).flatI⟩
    have hyn : y ∈ nms rows := List.mem_of_getElem? hy
    rw [Bool.eq_iff_iff, isIn_iff, leOf_iff, up_eq ok.good hmem, List.mem_cons, List.mem_flatMap]
    refine or_congr Iff.rfl ⟨fun ⟨s, hs, h⟩ => ⟨s, hs, leOf_iff.mp (List.mem_filter.mp h).2⟩, fun ⟨s, hs, h⟩ => ⟨s, hs, List.mem_filter.mpr ⟨hyn, leOf_iff.mpr h⟩⟩⟩
end
end FM

/-! ## FMake -/
set_option Elab.async false
set_option linter.all false
set_option maxRecDepth 100000
set_option maxHeartbeats 2000000
/-! Instances: what a constructor promises; the hierarchy's own. -/
namespace FM
open PySem PySem.Spec PyProof.Rows L2
open Evl (Ex EvT Ev)
/-- a constructor's promise: the rest of the arguments stand in a heap without the instance; it comes to an instance of which R holds -/
def spI {ι : Type} (C : Addr) (A : ι → List V → Hp → Prop) (R : ι → Hp → V → Prop) : Sp := fun vs H Q _ => ∃ i a dx r H0, vs = .ref a :: r ∧ H a = some (.ins C dx []) ∧ H0 a = none ∧ Ex H0 H ∧ A i r H0 ∧ ∀ H', Ex H0 H' → R i H' (.ref a) → Q .non H'
section
variable {P : Program} {w : World} {K : PySem.W.Frag} {mg : Str → Option Value} {base : Heap} {ι : Type} {A : ι → List V → Hp → Prop} {Pp : ι → Hp → V → Prop} {C : Addr} {x y qual : Str} {params : Arguments} {body : List Stmt} {scope : Scope} {f : Addr} {fd : FuncData} {N ps : List Str} {k : Nat}
def BodI (P : Program) (w : World) (K : PySem.W.Frag) (mg : Str → Option Value) (base : Heap) (N : List Str) (qual : Str) (scope : Scope) (body : List Stmt) (f : Addr) (k : Nat) (C : Addr) (A : ι → List V → Hp → Prop) (Pp : ι → Hp → V → Prop) : Prop :=
  ∀ (cdv : Value) (A0 : Around) (outer : List Env) (s : Shared) (H : Hp) (E : XK) (i : ι) (a dx : Addr) (r : List V) (H0 : Hp) (Q : VK), Room k (cxOf CX0 P w K mg base N qual scope f cdv A0 outer s H E).A → H a = some (.ins C dx []) → H0 a = none → Ex H0 H → A i r H0 → (∀ H', Ex H0 H' → Pp i H' (.ref a) → Q .non H') →
    ∃ t, PSs (cxOf CX0 P w K mg base N qual scope f cdv A0 outer s H E) body t ∧ t { nx := fun _ H' => Q .non H', rt := Q } (start N (.ref a :: r)) H
theorem bodI_ok {dvs : List V} {kws : List (Str × V)} (F : FunD K y qual params body scope dvs kws f fd) (S : FnScope N ps scope) (len : ∀ i vs H, A i vs H → vs.length + 1 = ps.length) (h : BodI P w K mg base N qual scope body f k C A Pp) : FnOk P w K mg base CX0 (k + 1) f fd ps (spI C A Pp) :=
  F.ok S (fun vs H Q E ⟨i, a, dx, r, H0, e, _, _, _, hA, _⟩ => by rw [e]; exact len i r H0 hA) fun cdv A0 outer s H vs Q E hr ⟨i, a, dx, r, H0, e, h1, h2, h3, hA, hq⟩ => by
    subst e
    exact h cdv A0 outer s H E i a dx r H0 Q hr h1 h2 h3 hA hq
end
section
variable {K : PySem.W.Frag} {σ : L2.St} {H : Hp} {te ta tv : TE} {tr : TA} {D : Ends} {β : Type} {R : Rdr β} {xs : List β}
/-- C(..) -/
theorem make_ {ι : Type} {A : ι → List V → Hp → Prop} {C : Addr} {E : XK} {γ : Type} {S : Rdr γ} {g : ι → γ} (i : ι) (h : EvAs tr σ H (A i)) : EvP (tMake C (spI C A fun i H v => S H v (g i)) [] E tr) σ H (nw S (g i)) := fun H1 e Q q =>
  h H1 e _ fun vs H2 e2 hA x dx hx hdx hne => by
    have ex : Ex H2 (upd (upd H2 dx (.own x)) x (.ins C dx [])) := Ex.mut (Ex.new hdx) hx
    exact ⟨i, x, dx, vs ++ [], H2, rfl, upd_same, hx, ex, by rw [List.append_nil]; exact hA, fun H' e' r => ⟨rfl, q _ H' (e2.trans e') ⟨x, rfl, Evl.fresh_back e2 hx, r⟩⟩⟩
/-- self.f = value -/
theorem r_sfld {a C dx : Addr} {fs : List (Str × V)} {f : Str} {Pp : Hp → V → Hp → Prop} (hv : EvP tv σ H Pp) (ho : Ev ta σ H (.ref a)) (ha : H a = some (.ins C dx fs)) (hc : Cls K C) (hn : NoAttr K C f) (hl : fs.length < 1000) (k : ∀ y H1, Ex H H1 → (∃ Hm, Ex H Hm ∧ Ex Hm H1 ∧ Pp H y Hm) → D.nx σ (upd H1 a (.ins C dx (putF f y fs)))) : sFld K ta tv f D σ H :=
  hv H (Ex.refl _) _ fun y H1 e1 p => ho H1 e1 _ fun H2 e2 => ⟨a, C, dx, fs, rfl, e2 a _ (e1 a _ ha), hc, hn, hl, k y H2 (e1.trans e2) ⟨H1, e1, e2, p⟩⟩
theorem isiT_l (h : EvP te σ H (is (rLst R) xs)) : Ev (tCB (rIsiT K) (tCons te (tCons (tTup (tCons (tC (.ty "list")) (tCons (tC (.ty "tuple")) tNil))) tNil))) σ H (.bl true) := fun H1 e Q q =>
  h H1 e _ fun v H2 e2 ⟨a, vs, ev, hv, r⟩ => ⟨by show 2 ≤ sizeLine; decide, fun p hp => by
    subst ev
    exact ⟨.ref a, p, [.ty "list", .ty "tuple"], .type "list", [.type "list", .type "tuple"], true, rfl, upd_same, .cons (.ty _) (.cons (.ty _) .nil), .base (.lst (Ex.new hp a _ hv)), rfl, q _ (e2.trans (Ex.new hp))⟩⟩
theorem lenD_ {d : Addr} {kvs : List (Key × V)} (h : Ev te σ H (.ref d)) (hd : H d = some (.dK kvs)) : Ev (tCB (fun xs H Q => ∃ a kvs, xs = [V.ref a] ∧ H a = some (.dK kvs) ∧ Q (.int kvs.length) H) (tCons te tNil)) σ H (.int kvs.length) := fun H1 e Q q =>
  h H1 e _ fun H2 e2 => ⟨d, kvs, rfl, e2 d _ (e d _ hd), q H2 e2⟩
theorem con_ {a C dx : Addr} {fs : List (Str × V)} {f : Str} {v : V} (h : Ev te σ H (.ref a)) (ha : H a = some (.ins C dx fs)) (hc : Cls K C) (hk : ∃ u, Con K C f v u) (hf : fs.lookup f = none) : Ev (tCon K te f) σ H v := fun H1 e Q q =>
  h H1 e _ fun H2 e2 => let ⟨u, hk⟩ := hk; ⟨a, C, dx, fs, v, u, rfl, e2 a _ (e a _ ha), hc, hk, hf, q H2 e2⟩
/-- pairs of a dict with texts as keys -/
abbrev KvS (R : Rdr β) (H : Hp) (kvs : List (Key × V)) (m : List (Str × β)) : Prop := Paired (fun (kv : Key × V) z => (kv.1 = kS z.1 ∧ sOk z.1) ∧ R H kv.2 z.2) kvs m
theorem kS_inj {a b : Str} (h : kS a = kS b) : a = b := Sum.inr.inj h
theorem kappS {kvs : List (Key × V)} {m : List (Str × β)} {s : Str} {v : V} {x : β} (hn : s ∉ m.map (·.1)) (hs : sOk s) (h : KvS R H kvs m) (r : R H v x) : KvS R H (putK kvs (kS s) v) (m ++ [(s, x)]) := by
  rw [putK_snoc]
  · exact psnoc h ⟨⟨rfl, hs⟩, r⟩
  · rw [kS_nodup h]
    intro q
    obtain ⟨y, hy, e⟩ := List.mem_map.mp q
    rw [kS_inj e] at hy
    exact hn hy
theorem kupdS [MoT R] {kvs : List (Key × V)} {m : List (Str × β)} {G : Addr} {u o : HO} (hG : H G = some u) (h1 : isT u = false) (h : KvS R H kvs m) : KvS R (upd H G o) kvs m :=
  pmap h fun _ _ r => ⟨r.1, upT (Tx.upd hG (fun _ k => by subst k; cases h1) fun _ _ k => by subst k; cases h1) r.2⟩
/-- lists of texts stay where something else turns -/
theorem lst_keep [MoT R] {G : Addr} {u o : HO} {v : V} (hG : H G = some u) (h1 : isT u = false) (h2 : ∀ vs, u ≠ .lst vs) (h : rLst R H v xs) : rLst R (upd H G o) v xs := by
  obtain ⟨a, vs, e, ha, r⟩ := h
  refine ⟨a, vs, e, ?_, pmap r fun _ _ z => upT (Tx.upd hG (fun _ k => by subst k; cases h1) fun _ _ k => by subst k; cases h1) z⟩
  rw [upd_ne (fun z => by subst z; rw [hG] at ha; cases ha; exact h2 _ rfl)]
  exact ha
theorem kupdL [MoT R] {kvs : List (Key × V)} {m : List (Str × List β)} {G : Addr} {u o : HO} (hG : H G = some u) (h1 : isT u = false) (h2 : ∀ vs, u ≠ .lst vs) (h : KvS (rLst R) H kvs m) : KvS (rLst R) (upd H G o) kvs m :=
  pmap h fun _ _ r => ⟨r.1, lst_keep hG h1 h2 r.2⟩
/-- the keys of a locked dict that stood -/
theorem j_keysS {d : Addr} {kvs : List (Key × V)} {m : List (Str × β)} {o : Obj} (h : Ev te σ H (.ref d)) (hd : H d = some (.frz o (.dK kvs))) (r : KvS R H kvs m) : EvJ (iKeys te) σ H (m.map (·.1)).length (ith rStr (m.map (·.1))) := by
  rw [List.length_map]
  exact fun H1 e Q q => h H1 e _ fun H2 e2 => by
    have hn := hov_old (H2 := H2) e e2
    refine ⟨d, o, rfl, .inl ⟨kvs, e2 d _ (e d _ hd), q _ H2 (hov H H1 H2) e2 hn (hov_le e e2) hov_only ⟨fun i H3 hi e3 => ⟨e3 d _ (hn d _ hd), by rw [plen r]; exact hi⟩, fun i H3 x H4 hi e3 y => ?_, fun H3 e3 => ⟨e3 d _ (hn d _ hd), Nat.le_of_eq (plen r)⟩⟩⟩⟩
    obtain ⟨rfl, k, v, hk, rfl⟩ := y
    obtain ⟨z, hz, ⟨e1, e4⟩, _⟩ := pget r hk
    have e1 : k = kS z.1 := e1
    subst e1
    exact ⟨Ex.refl _, z.1, by rw [List.getElem?_map, hz]; rfl, rfl, e4⟩
end
section
variable {P : Program} {w : World} {K : PySem.W.Frag} {mg : Str → Option Value} {base : Heap}
/-- rows that make a hierarchy -/
abbrev HiI := {rows : Rows Str // Rok rows ∧ ∀ r ∈ rows, NameOk r.1}
abbrev sp_Hier (K : PySem.W.Frag) : Sp := spI (He.ga K "Hierarchy") (fun (i : HiI) => a1 rRows i.1) fun i H v => rH K H v i.1
theorem ok_Hierarchy (T : Txt K mg) (G_element_problem : GFn P w K mg base "element_problem" 2 sp_elem) (G_Hierarchy_ancestors_of_new : GMt P w K mg base "Hierarchy" "ancestors_of_new" 1 (sp_ano (K := K))) : GMk P w K mg base "Hierarchy" 3 (sp_Hier K) := by
  obtain ⟨fd, F⟩ := T.d_Hierarchy___init__
  have sc := (C8.fnScope_by (N := ["self", "classes", "name", "position", "element", "problem", "superclasses"]) (P := ["self", "classes"]) (sc := defScope st_Hierarchy___init__) (by kernel_rfl))
  obtain ⟨ds, hds, hb⟩ := F.binds1 (ps := ["self", "classes"]) 2 1 (fun h => by cases h) rfl (fun Tt kV doc pm an cdv ct us its hl hi => match us, hl, its, hi with | [_, _], _, [_], _ => ⟨_, rfl, rfl⟩)
  have hds : ds = [] := by cases hds; rfl
  subst hds
  refine ⟨_, fd, _, T.g_Hierarchy, T.mk_Hierarchy, bodI_ok F sc (fun i vs H ⟨_, e, _⟩ => by rw [e]; rfl) ?_, hb⟩
  intro cdv A outer s H E ⟨rows, ok, nmok⟩ a dx r H0 Q hr ha ha0 e0 ⟨v2, e, r2⟩ hq
  have nd := sc.nd
  have hu := u1 hr
  subst e
  refine ⟨_, (PSs.nox (pss_cons (ps_if (pt_not (pt_val (pe_callB (k_isiT K) (by rfl) T.isinstance (by decide +kernel) (pa_cons (pv 1) (pa_cons (pe_tup (pa_cons (pe_bltn (v := .ty "list") (by rfl) T.list (by decide +kernel) rfl) (pa_cons (pe_bltn (v := .ty "tuple") (by rfl) T.tuple (by decide +kernel) rfl) pa_nil))) pa_nil))))) (pss_one ps_never) pss_nil)
      (pss_cons (k_sfld K (pv 0) pe_dnewK)
      (pss_cons (ps_for PassesOwn.never (by rfl) (k_enum K T.enumerate (pa_cons (pv 1) pa_nil)) (k_gtup K (n := 2) (pgs_cons (pg_name (i := 3) nd (by rfl) (by first | exact Or.inl rfl | exact Or.inr rfl)) (pgs_cons (pg_name (i := 4) nd (by rfl) (by first | exact Or.inl rfl | exact Or.inr rfl)) pgs_nil))) (pss_cons (ps_set (i := 5) nd (by rfl) (by first | exact Or.inl rfl | exact Or.inr rfl) (kcall G_element_problem hr (pa_cons (pv 4) (pa_cons (k_fld K (pv 0)) pa_nil))))
      (pss_cons (ps_if (pt_cmpR op_notN (pv 5) pe_non (nomark _)) (pss_one ps_never) pss_nil)
      (pss_cons (ps_asg (pv 4) (k_gtup K (n := 2) (pgs_cons (pg_name (i := 2) nd (by rfl) (by first | exact Or.inl rfl | exact Or.inr rfl)) (pgs_cons (pg_name (i := 6) nd (by rfl) (by first | exact Or.inl rfl | exact Or.inr rfl)) pgs_nil))))
      (pss_one (ps_dput hu (k_fld K (pv 0)) (pv 2) (pv 6) (by rfl)))))))
      (pss_cons (ps_if (pt_cmpR op_gt (pe_callB call_lenD (by rfl) T.len (by decide +kernel) (pa_cons (k_fld K (pv 0)) pa_nil)) (k_con K (pv 0)) (nomark _)) (pss_one ps_never) pss_nil)
      (pss_cons (k_sfld K (pv 0) pe_dnewK)
      (pss_one (ps_lock (ps_for PassesOwn.never (by rfl) (pi_keys (k_fld K (pv 0))) (pg_name (i := 2) nd (by rfl) (by first | exact Or.inl rfl | exact Or.inr rfl)) (pss_one (ps_dput hu (k_fld K (pv 0)) (pv 2) (kmeth G_Hierarchy_ancestors_of_new hr (pv 0) (pa_cons (pv 2) pa_nil)) (by rfl)))))))))))), ?_⟩
  have r2 : rRows H0 v2 rows := r2
  have hlen := ok.len
  refine r_not (Evl.et_not (Evl.et_B (isiT_l (var rfl (up e0 r2))))) fun H1 e1 => ?_
  have ha1 := e1 a _ ha
  have e01 := e0.trans e1
  refine sq (r_sfld dnewK (Evl.ev_var rfl) ha1 T.cls_Hierarchy T.no_superclasses_by_class (by decide) fun y H2 e2 ⟨Hm, em, em2, ds, ey, hn, hdm⟩ => ?_)
  subst ey
  have nea : ds ≠ a := fun z => by subst z; rw [ha1] at hn; cases hn
  have hds2 : H2 ds = some (.dK []) := em2 ds _ hdm
  have ha2 : H2 a = some (.ins (He.ga K "Hierarchy") dx []) := e2 a _ ha1
  have hds0 : H0 ds = none := Evl.fresh_back e01 hn
  have e02 : Ex H0 (upd H2 a (.ins (He.ga K "Hierarchy") dx [("superclasses_by_class", .ref ds)])) := Ex.mut (e01.trans e2) ha0
  have hda : upd H2 a (.ins (He.ga K "Hierarchy") dx [("superclasses_by_class", .ref ds)]) ds = some (.dK []) := by rw [upd_ne nea]; exact hds2
  have haa : upd H2 a (.ins (He.ga K "Hierarchy") dx [("superclasses_by_class", .ref ds)]) a = some (.ins (He.ga K "Hierarchy") dx [("superclasses_by_class", .ref ds)]) := upd_same
  show tSeq _ _ _ _ (upd H2 a (.ins (He.ga K "Hierarchy") dx [("superclasses_by_class", .ref ds)]))
  generalize upd H2 a (.ins (He.ga K "Hierarchy") dx [("superclasses_by_class", .ref ds)]) = H3 at e02 hda haa
  refine sq (r_for (H := H0) (j_enum (R := rPair rStr rPt) (Evl.ev_var rfl) r2) e02
    (fun j σ' H' => (∃ a1 a2 a3 a4 a5, σ' = [some (V.ref a), some v2, a1, a2, a3, a4, a5]) ∧ H' a = some (.ins (He.ga K "Hierarchy") dx [("superclasses_by_class", .ref ds)]) ∧ ∃ kvs, H' ds = some (.dK kvs) ∧ KvS rPt H' kvs (rows.take j))
    (fun H4 e4 => ⟨⟨_, _, _, _, _, rfl⟩, e4 a _ haa, [], e4 ds _ hda, .nil⟩) (fun Hn en hno j σ' H' hj hI eh v4 H4 e4 ⟨⟨x, p⟩, hx, b, y1, y2, ev, hb2, _, ry⟩ => ?_) fun σ' H' hI eh => ?_)
  · obtain ⟨⟨a1, a2, a3, a4, a5, rfl⟩, hia, kvs, hk, rk⟩ := hI
    subst ev
    refine ⟨b, _, rfl, .inl (.inl hb2), rfl, y1, _, rfl, y2, _, rfl, rfl, ?_⟩
    have hmem : (x, p) ∈ rows := List.mem_of_getElem? hx
    have split : rows = rows.take j ++ (x, p) :: rows.drop (j + 1) := by
      have h2 := (List.getElem?_eq_some_iff.mp hx).2
      rw [← h2, List.getElem_cons_drop, List.take_append_drop]
    obtain ⟨gn, gi, gd, _⟩ := ok.good.take split
    have hk4 := e4 ds _ hk
    have hia4 := e4 a _ hia
    have rk4 : KvS rPt H4 kvs (rows.take j) := pmap rk fun _ _ r => ⟨r.1, up (R := rPt) e4 r.2⟩
    refine r_set (call_ (P := fun (_ : EpI) => isNon) ⟨(x, p), rows.take j, nmok _ hmem, gn, gd, gi, ok.sup _ hmem⟩ (ea2 (R := rPair rStr rPt) (S := rDic rPt) (var rfl ry) (ev_is (fld (Evl.ev_var rfl) hia4 T.cls_Hierarchy T.no_superclasses_by_class rfl) ⟨ds, kvs, rfl, .inl hk4, rk4⟩))) fun v5 H5 e5 z => ?_
    have z : v5 = .non := z
    subst z
    refine r_not (notN (Evl.ev_var rfl) rfl) fun H6 e6 => ?_
    obtain ⟨c, z1, z2, ev, hc, rx, rp⟩ := up (R := rPair rStr rPt) (e5.trans e6) ry
    subst ev
    refine sq (show tAsg _ _ _ _ _ from (Evl.ev_var (v := V.ref c) rfl) H6 (Ex.refl _) _ fun H7 e7 => ?_)
    refine ⟨c, _, rfl, .inl (.inl (e7 c _ hc)), rfl, z1, _, rfl, z2, _, rfl, rfl, ?_⟩
    dsimp only
    have e47 := (e5.trans e6).trans e7
    have hk7 := e47 ds _ hk4
    have lk : kvs.length ≤ 20 := by
      have := plen rk
      have := List.length_take_le' j rows
      omega
    refine r_dputS (R := rPt) (x := p) hk7 (var rfl (up (R := rPt) e7 rp)) (fld (Evl.ev_var rfl) (e47 a _ hia4) T.cls_Hierarchy T.no_superclasses_by_class rfl) (var (R := rStr) rfl (up (R := rStr) e7 rx)) (by omega) fun v8 H8 e8 r8 => ?_
    have e48 := e47.trans e8
    have hk8 := e8 ds _ hk7
    refine ⟨⟨⟨_, _, _, _, _, rfl⟩, ?_, putK kvs (kS x) v8, upd_same, ?_⟩, Ex.mut ((eh.trans e4).trans e48) (hno ds _ hds0 hda rfl)⟩
    · rw [upd_ne (Ne.symm nea)]
      exact e48 a _ hia4
    · have ht : rows.take (j + 1) = rows.take j ++ [(x, p)] := by rw [List.take_add_one, hx]; rfl
      rw [ht]
      exact kappS gn rx.2 (kupdS hk8 rfl (pmap rk4 fun _ _ r => ⟨r.1, up (R := rPt) e48 r.2⟩)) (upT (R := rPt) (Tx.upd hk8 (fun _ k => by cases k) fun _ _ k => by cases k) r8)
  · obtain ⟨⟨a1, a2, a3, a4, a5, rfl⟩, hia, kvs, hk, rk⟩ := hI
    rw [List.take_length] at rk
    have lk := plen rk
    refine r_not (Evl.et_is (Evl.et_test (Evl.ev_op (lenD_ (fld (Evl.ev_var rfl) hia T.cls_Hierarchy T.no_superclasses_by_class rfl) hk) (con_ (Evl.ev_var rfl) hia T.cls_Hierarchy T.lim_H rfl) Evl.rv_I0)) (show decide ((20 : Int) < (kvs.length : Nat)) = false from decide_eq_false (by omega))) fun H4 e4 => ?_
    have hia4 := e4 a _ hia
    refine sq (r_sfld dnewK (Evl.ev_var rfl) hia4 T.cls_Hierarchy T.no_ancestors_by_class (show (1 : Nat) < 1000 by decide) fun y H5 e5 ⟨Hm, em, em2, da, ey, hn, hdm⟩ => ?_)
    subst ey
    have ned : da ≠ a := fun z => by subst z; rw [hia4] at hn; cases hn
    have nes : da ≠ ds := fun z => by rw [z, e4 ds _ hk] at hn; cases hn
    have hda5 : H5 da = some (.dK []) := em2 da _ hdm
    have hda0 : H0 da = none := Evl.fresh_back (eh.trans e4) hn
    have hk5 : upd H5 a (.ins (He.ga K "Hierarchy") dx (fsH ds da)) ds = some (.dK kvs) := by rw [upd_ne nea]; exact e5 ds _ (e4 ds _ hk)
    have hd5 : upd H5 a (.ins (He.ga K "Hierarchy") dx (fsH ds da)) da = some (.dK []) := by rw [upd_ne ned]; exact hda5
    have ha5 : upd H5 a (.ins (He.ga K "Hierarchy") dx (fsH ds da)) a = some (.ins (He.ga K "Hierarchy") dx (fsH ds da)) := upd_same
    have e05 : Ex H0 (upd H5 a (.ins (He.ga K "Hierarchy") dx (fsH ds da))) := Ex.mut (eh.trans (e4.trans e5)) ha0
    have rk5 : KvS rPt (upd H5 a (.ins (He.ga K "Hierarchy") dx (fsH ds da))) kvs rows := kupdS (e5 a _ hia4) rfl (pmap rk fun _ _ r => ⟨r.1, up (R := rPt) (e4.trans e5) r.2⟩)
    show tLock _ _ _ (upd H5 a (.ins (He.ga K "Hierarchy") dx (fsH ds da)))
    generalize upd H5 a (.ins (He.ga K "Hierarchy") dx (fsH ds da)) = G at hk5 hd5 ha5 e05 rk5
    refine ⟨ds, .dK kvs, hk5, trivial, fun od => ?_⟩
    have hk6 : upd G ds (.frz od (.dK kvs)) ds = some (.frz od (.dK kvs)) := upd_same
    have hd6 : upd G ds (.frz od (.dK kvs)) da = some (.dK []) := by rw [upd_ne nes]; exact hd5
    have ha6 : upd G ds (.frz od (.dK kvs)) a = some (.ins (He.ga K "Hierarchy") dx (fsH ds da)) := by rw [upd_ne (Ne.symm nea)]; exact ha5
    have e06 : Ex H0 (upd G ds (.frz od (.dK kvs))) := Ex.mut e05 hds0
    have rk6 : KvS rPt (upd G ds (.frz od (.dK kvs))) kvs rows := kupdS hk5 rfl rk5
    generalize upd G ds (.frz od (.dK kvs)) = L at hk6 hd6 ha6 e06 rk6
    let B : Hp := fun b => if b = da then none else L b
    have eB : Ex B L := fun b o h => by
      have h : (if b = da then none else L b) = some o := h
      split at h
      · cases h
      · exact h
    have bda : B da = none := if_pos rfl
    have bne : ∀ {b o}, b ≠ da → L b = some o → B b = some o := fun h k => (if_neg h).trans k
    have rkB : KvS rPt B kvs rows := pmap rk6 fun _ _ r => ⟨r.1, upT (R := rPt) (fun b o xs h k => bne (fun z => by subst z; rw [hd6] at k; cases k; rcases h with h | ⟨_, h⟩ <;> cases h) k) r.2⟩
    have e0B : Ex H0 B := fun b o h => bne (fun z => by subst z; rw [hda0] at h; cases h) (e06 b o h)
    refine r_for (H := B) (j_keysS (R := rPt) (fld (Evl.ev_var rfl) (bne (Ne.symm ned) ha6) T.cls_Hierarchy T.no_superclasses_by_class rfl) (bne (Ne.symm nes) hk6) rkB) eB
      (fun j σ' H' => (∃ a1 a2 a3 a4 a5, σ' = [some (V.ref a), some v2, a1, a2, a3, a4, a5]) ∧ ∃ kvs2, H' da = some (.dK kvs2) ∧ KvS (rLst rStr) H' kvs2 ((ancs rows).take j))
      (fun H4 e4 => ⟨⟨_, _, _, _, _, rfl⟩, [], e4 da _ hd6, .nil⟩) (fun Hn en hno j σ' H' hj hI eh v4 H4 e4 ⟨x, hx, rx⟩ => ?_) fun σ' H' hI eh => ?_
    · obtain ⟨⟨a1, a2, a3, a4, a5, rfl⟩, kvs2, hk2, rk2⟩ := hI
      have eB4 := (en.trans eh).trans e4
      obtain ⟨⟨y, p⟩, hr2, rfl⟩ : ∃ r, rows[j]? = some r ∧ r.1 = x := by
        rw [List.getElem?_map] at hx
        cases q : rows[j]? with
        | none => rw [q] at hx; cases hx
        | some r => rw [q] at hx; exact ⟨r, rfl, Option.some.inj hx⟩
      have hmem : (y, p) ∈ rows := List.mem_of_getElem? hr2
      have split : rows = rows.take j ++ (y, p) :: rows.drop (j + 1) := by
        have h2 := (List.getElem?_eq_some_iff.mp hr2).2
        rw [← h2, List.getElem_cons_drop, List.take_append_drop]
      have gn := (ok.good.take split).1
      have tk : ((ancs rows).take j).map (·.1) = nms (rows.take j) := by
        unfold ancs nms
        rw [← List.map_take, List.map_map]
        rfl
      have hj4 : KvS (rLst rStr) H4 kvs2 ((ancs rows).take j) := pmap rk2 fun _ _ r => ⟨r.1, up (R := rLst rStr) e4 r.2⟩
      have lk2 : kvs2.length ≤ 20 := by
        have := plen rk2
        have h1 := List.length_take_le' j (ancs rows)
        unfold ancs at h1 this
        rw [List.length_map] at h1
        omega
      have ha4 := eB4 a _ (bne (Ne.symm ned) ha6)
      have hcur : rHq K H4 (.ref a) (rows, j) := ⟨a, dx, ds, da, od, kvs, rfl, ha4, ⟨eB4 ds _ (bne (Ne.symm nes) hk6), pmap rkB fun _ _ r => ⟨r.1, up (R := rPt) eB4 r.2⟩⟩, da, kvs2, rfl, e4 da _ hk2, hj4⟩
      dsimp only
      refine r_dputS (R := rLst rStr) (x := (nms rows).filter fun z => leOf rows y z) (e4 da _ hk2) (EvP.of_nw (mcall_ (P := fun (i : AnoI) => nw (rLst rStr) ((nms i.rows).filter fun y => leOf i.rows i.r.1 y)) (R := rHq K) ⟨rows, j, (y, p), hr2, ok⟩ (var rfl hcur) (rHq_ob fun _ _ => rfl) (ea1 (var (R := rStr) rfl rx)) m1))
        (fld (Evl.ev_var rfl) ha4 T.cls_Hierarchy T.no_ancestors_by_class rfl) (var (R := rStr) rfl rx) (by omega) fun v8 H8 e8 r8 => ?_
      have hk8 := e8 da _ (e4 da _ hk2)
      refine ⟨⟨⟨_, _, _, _, _, rfl⟩, putK kvs2 (kS y) v8, upd_same, ?_⟩, Ex.mut ((eh.trans e4).trans e8) (hno da _ bda hd6 rfl)⟩
      have ht : (ancs rows).take (j + 1) = (ancs rows).take j ++ [(y, (nms rows).filter fun z => leOf rows y z)] := by
        unfold ancs
        rw [List.take_add_one, List.getElem?_map, hr2]
        rfl
      rw [ht]
      exact kappS (by rw [tk]; exact gn) rx.2 (kupdL hk8 rfl (fun _ k => by cases k) (pmap hj4 fun _ _ r => ⟨r.1, up (R := rLst rStr) e8 r.2⟩)) (lst_keep hk8 rfl (fun _ k => by cases k) r8)
    · obtain ⟨⟨a1, a2, a3, a4, a5, rfl⟩, kvs2, hk2, rk2⟩ := hI
      have ll : (rows.map (·.1)).length = (ancs rows).length := by unfold ancs; rw [List.length_map, List.length_map]
      rw [ll, List.take_length] at rk2
      have hfr := eh ds _ (bne (Ne.symm nes) hk6)
      refine ⟨hfr, hq _ (Ex.mut (e0B.trans eh) hds0) ⟨a, dx, ds, da, rfl, ?_, ⟨ds, kvs, rfl, upd_same, kupdS hfr rfl (pmap rkB fun _ _ r => ⟨r.1, up (R := rPt) eh r.2⟩)⟩, ⟨da, kvs2, rfl, ?_, kupdL hfr rfl (fun _ k => by cases k) rk2⟩⟩⟩
      · rw [upd_ne (Ne.symm nea)]
        exact eh a _ (bne (Ne.symm ned) ha6)
      · rw [upd_ne nes]
        exact hk2
end
end FM

/-! ## FItems -/
set_option Elab.async false
set_option linter.all false
set_option maxRecDepth 100000
set_option maxHeartbeats 2000000
/-! items() of a locked dict with tuples as keys. -/
namespace FT
open PySem PySem.Spec PyProof.Rows L2
/-- the pairs of the dict at d: each a new tuple of the key's own tuple and the value -/
def ItP (d : Addr) (o : Obj) (kvs : List (List Key × V)) : It where
  go i H := H d = some (.frz o (.dT kvs)) ∧ i < kvs.length
  yld i H x H' := ∃ T k v q, kvs[i]? = some (k, v) ∧ x = .ref T ∧ H T = none ∧ H q = some (.tup (k.map kV)) ∧ H' = upd H T (.tup [.ref q, v])
  stop i H := H d = some (.frz o (.dT kvs)) ∧ kvs.length ≤ i
section
variable {X : Cx} {pins : List (Addr × Obj)} {σ : L2.St} {H : Hp} {s : Shared} {d : Addr} {o : Obj}
theorem rowT {kvs : List (List Key × V)} {es : Array DictEntry} {ep : Nat} (I : Inv X pins σ H s) (h : H d = some (.frz o (.dT kvs))) (hdt : o.data = .dict es ep) :
    (d == sysModules) = false ∧ DT.Raw s.heap d es ep ∧ es.size = kvs.length ∧ ∀ (i : Nat) (k : List Key) (v : V), kvs[i]? = some (k, v) → ∃ (en : DictEntry) (q : Addr), es[i]? = some en ∧ en.key = .ref q ∧ H q = some (.tup (k.map kV)) ∧ RelV v en.val := by
  obtain ⟨hd, z, hs, xs, pr, o', es', ep', ho, hx, hdt', he, _⟩ := I.hok d _ h
  rw [hd] at ho
  cases ho
  obtain ⟨rfl, rfl⟩ := dict_ep hdt hdt'
  refine ⟨hs, ⟨o, hd, hx, hdt⟩, ?_, fun i k v e => ?_⟩
  · have l1 : es'.size = xs.length := size_of_entries he
    have l2 : kvs.length = xs.length := Paired.length pr
    omega
  · obtain ⟨b, hb, _, e2, e3⟩ := paired_get pr e
    have q := entry_at he i
    rw [hb] at q
    exact ⟨_, b.2.1, q, rfl, e2, e3⟩
end
theorem turn_P {P : Program} {w : World} {K : PySem.W.Frag} {elts : List Expr} {kk : Nat} {tpos : Pos} {d : Addr} {o : Obj} {es : Array DictEntry} {ep : Nat} {kvs : List (List Key × V)} (it : Addr) (hdt : o.data = .dict es ep) :
    Turn P w K (.Tuple elts kk tpos) (ItP d o kvs) [it] it (fun i h => ∃ u v, IsItemIter h it d i es.size ep u v) where
  mem := by simp
  obj := fun i h ⟨u, v, e⟩ b hb => by
    rw [show b = it by simpa using hb]
    exact ⟨_, e, fun v z => nomatch z⟩
  keep := fun i h h' ⟨u, v, e⟩ k => ⟨u, v, k it (by simp) _ e⟩
  item := by
    rintro X rfl rfl rfl hc i pins s σ H E I hf ⟨u, v, he⟩ ⟨hd, hi⟩
    obtain ⟨hs, hm, hsz, ent⟩ := rowT I hd hdt
    obtain ⟨⟨k, x⟩, hkv⟩ : ∃ p, kvs[i]? = some p := ⟨_, List.getElem?_eq_getElem hi⟩
    obtain ⟨en, q, hen, hkey, hq, hv⟩ := ent i k x hkv
    have hlt : it < s.heap.objs.size := Heap.lt_size he
    have hies : i < es.size := by omega
    have een : es[i] = en := by
      rw [Array.getElem?_eq_getElem hies] at hen
      exact Option.some.inj hen
    refine DT.nextI he hm hies fun g ho hT hz hk => ?_
    rw [een] at ho hT
    refine ⟨_, rfl, wpAny_letOwnedTupleGo_items (s := { s with heap := g }) ho fun g2 he2 sb => ?_⟩
    have hT2 : g2.get? s.heap.objs.size = some { cls := .type "tuple", data := .seq #[en.key, en.val] } := (sb.2 _ (Nat.ne_of_gt hlt)).trans hT
    have new : ObjOk X.prog X.w (upd H s.heap.objs.size (.tup [.ref q, x])) g2 s.heap.objs.size (.tup [.ref q, x]) := ⟨by show 2 ≤ sizeLine; decide, [en.key, en.val], .cons hkey (.cons hv .nil), _, hT2, rfl, _, rfl⟩
    have J : Inv X pins σ (upd H s.heap.objs.size (.tup [.ref q, x])) { s with heap := g2 } :=
      I.turnedNew (t' := s.toks) (ch := [it]) (fun b ob hb e => (sb.2 b (by simpa using hb)).trans (hk b ob (by simpa using hb) e)) hf (Nat.le_refl _) new
    refine ⟨.ref s.heap.objs.size, _, J, rfl, ⟨_, k, x, q, hkv, rfl, I.hok.fresh (Nat.le_refl _), hq, rfl⟩, ⟨_, _, he2⟩, fun b hb => ?_⟩
    rw [show b = it by simpa using hb, upd_ne (Nat.ne_of_lt hlt)]
    exact (hf it (by simp)).1
  done := by
    rintro X rfl rfl rfl hc i pins s σ H E I hf ⟨u, v, he⟩ ⟨hd, hi⟩
    obtain ⟨f0, f1, f2, f3, f4, f5⟩ := hf it (by simp)
    obtain ⟨hs, hm, hsz, _⟩ := rowT I hd hdt
    exact DT.endI (I.ok.hd hc) he hm (by omega) fun g eb => ⟨rfl, I.turned (t' := s.toks) (fun b ob hb e => eb b ob hb e) f0 f1 f3 f4 f5⟩
  self := fun A i s Q E ⟨_, _, e⟩ h => PySem.W.kcp_self e h
def iItemsT (td : TE) : L2.TI := fun σ H R => td σ H fun x H1 => ∃ d o kvs, x = .ref d ∧ H1 d = some (.frz o (.dT kvs)) ∧ R (ItP d o kvs) H1
theorem pi_itemsT {X : Cx} {e : Expr} {td : TE} {apos cpos tpos : Pos} {elts : List Expr} {kk : Nat} (he : PE X e td) (hbase : attributeBase e "items" X.env (eval e X.env) = eval e X.env := by rfl) (hline : (apos.endLine == cpos.line) = true := by rfl) :
    PI X (.Tuple elts kk tpos) (.Call (.Attribute e "items" apos) [] [] cpos) (iItemsT td) := by
  refine ⟨fun pins s σ H R I h => wpAny_Call_method (T := "dict") (id := "dict.items") hbase rfl hline F.plainAttrs_dict F.slot_dict_items F.type_dict_items (thn (he.run pins s σ H _ I h) fun u s1 ⟨x, H1, I1, rx, d, o, kvs, ex, hd, q⟩ => ?_)⟩
  subst ex
  obtain rfl : u = Value.ref d := rx
  obtain ⟨_, hgd, hx, es, ep, hdt, _, _⟩ := I1.frzT hd
  obtain ⟨hs, hm, hsz, _⟩ := rowT I1 hd hdt
  refine ⟨hm.typeIs, fun b e => by injection e with e; subst e; exact ⟨o, hgd, hx.2.1⟩, ?_⟩
  have J : Inv X pins σ H1 { s1 with heap := s1.heap.push { cls := .type "dict_items", data := .fields #[.ref d] } } := I1.kept (t' := s1.toks) fun b ob z => Heap.get?_push_of_some _ z
  have fin : wpAny (model X.prog X.w) X.A (pyIter (.ref s1.heap.objs.size)) (PIE X pins σ (.Tuple elts kk tpos) R) X.xe { s1 with heap := s1.heap.push { cls := .type "dict_items", data := .fields #[.ref d] } } :=
    DT.iterI (d := d) ⟨_, Heap.get?_push_size _ rfl, rfl, rfl⟩ (hm.push _) (pi_one (tk := s1.toks) J _ (turn_P _ hdt) ⟨.none, .none, Heap.get?_push_size _ rfl⟩ q)
  show wpAny _ _ (callWith cpos (.builtin "dict.items") [.ref d] [] []) _ X.xe s1
  exact method_meetsIn F.slot_dict_items F.entry_dict_items rfl (PySem.evalArgs_none ⟨rfl, hm.typeIs, F.args_dict_items_1 _, _, DT.meetsItems (es := es) (ep := ep) hs, hm, fin⟩)
end FT
namespace FM
open PySem PySem.Spec PyProof.Rows L2
open Evl (Ex EvT Ev)
/-- the pairs of a locked dict that stood -/
theorem j_itemsT {σ : L2.St} {H : Hp} {te : TE} {β : Type} {R : Rdr β} [MoT R] {d : Addr} {kvs : List (List Key × V)} {m : List (List Str × β)} {o : Obj} (h : Ev te σ H (.ref d)) (hd : H d = some (.frz o (.dT kvs))) (r : KvT R H kvs m) : EvJ (FT.iItemsT te) σ H m.length (ith (rPair rPt R) m) := fun H1 e Q q =>
  h H1 e _ fun H2 e2 => by
    have hn := hov_old (H2 := H2) e e2
    refine ⟨d, o, kvs, rfl, e2 d _ (e d _ hd), q _ H2 (hov H H1 H2) e2 hn (hov_le e e2) hov_only ⟨fun i H3 hi e3 => ⟨e3 d _ (hn d _ hd), by rw [plen r]; exact hi⟩, fun i H3 x H4 hi e3 y => ?_, fun H3 e3 => ⟨e3 d _ (hn d _ hd), Nat.le_of_eq (plen r)⟩⟩⟩
    obtain ⟨T, k, v, b, hk, rfl, hT, hb, rfl⟩ := y
    obtain ⟨z, hz, ⟨e1, e4⟩, rv⟩ := pget r hk
    have e1 : k = kT z.1 := e1
    subst e1
    exact ⟨Ex.new hT, z, hz, T, _, _, rfl, upd_same, rPt_of (Ex.new hT b _ hb) e4, upT (R := R) (Tx.of ((hn.trans e3).trans (Ex.new hT))) rv⟩
end FM

/-! ## FLaw4 -/
set_option Elab.async false
set_option linter.all false
set_option maxRecDepth 100000
set_option maxHeartbeats 2000000
/-! The law's own expansions and answers. -/
namespace FM
open PySem PySem.Spec PyProof.Rows L2
open Evl (Ex EvT Ev)
abbrev Made := List (List Str × List (List Str))
def cnt {σ : Type} [DecidableEq σ] (nx : σ) (b : List σ) : Nat := b.count nx
theorem cnt_take {σ : Type} [DecidableEq σ] (nx : σ) (b : List σ) (k : Nat) : cnt nx (b.take k) ≤ cnt nx b := List.Sublist.count_le _ (List.take_sublist _ _)
theorem ok_next : sOk "next" := by unfold sOk; decide +kernel
theorem subst_len {σ : Type} [DecidableEq σ] {nx : σ} {st : List σ} : ∀ b : List σ, (subst nx b st).length ≤ b.length + cnt nx b * st.length
  | [] => by simp [subst]
  | s :: b => by
    have ih := subst_len (nx := nx) (st := st) b
    have e : subst nx (s :: b) st = (if s = nx then st else [s]) ++ subst nx b st := rfl
    rw [e, List.length_append, List.length_cons]
    by_cases h : s = nx
    · subst h
      have e2 : cnt s (s :: b) = cnt s b + 1 := List.count_cons_self
      rw [if_pos rfl, e2, Nat.add_mul]
      omega
    · have e2 : cnt nx (s :: b) = cnt nx b := List.count_cons_of_ne h
      rw [if_neg h, e2]
      simp
      omega
theorem vals_len {acc : Made} {B : Nat} (h : ∀ z ∈ acc, z.2.length ≤ B) (ps : List (List Str)) : ∀ v ∈ valsAt acc ps, v.length ≤ B := fun v hv => by
  obtain ⟨p, _, rfl⟩ := List.mem_map.mp hv
  by_cases k : p ∈ acc.map (·.1)
  · obtain ⟨u, e, hu⟩ := at?_some k
    rw [e]
    exact h _ hu
  · rw [at?_none k]
    simp
theorem head_len {vs : List (List (List Str))} {B : Nat} (h : ∀ v ∈ vs, v.length ≤ B) : (vs.headD []).length ≤ B := by
  cases vs with
  | nil => simp
  | cons v vs => exact h v (by simp)
/-- few and short -/
structure Small (made : Made) : Prop where
  few : made.length ≤ 8
  short : ∀ z ∈ made, z.2.length ≤ 3 ∧ cnt nxt z.2 ≤ 1
theorem grow_len {nr : List Str → List (List Str)} : ∀ {made acc : Made} {B : Nat}, (∀ z ∈ made, z.2.length ≤ 3 ∧ cnt nxt z.2 ≤ 1) → (∀ z ∈ acc, z.2.length ≤ B) → ∀ z ∈ grow nr nxt acc made, z.2.length ≤ B + 3 * made.length
  | [], acc, B, _, h, z, hz => by simpa using h z hz
  | y :: made, acc, B, hs, h, z, hz => by
    have h0 : ∀ q ∈ acc ++ [(y.1, subst nxt y.2 ((valsAt acc (nr y.1)).headD []))], q.2.length ≤ B + 3 := fun q hq => by
      rcases List.mem_append.mp hq with k | k
      · have := h q k
        omega
      · rw [List.mem_singleton.mp k]
        have h2 := subst_len (nx := nxt) (st := (valsAt acc (nr y.1)).headD []) y.2
        have h3 := head_len (vals_len h (nr y.1))
        have h4 := hs y (by simp)
        show (subst nxt y.2 ((valsAt acc (nr y.1)).headD [])).length ≤ B + 3
        have h5 : cnt nxt y.2 * ((valsAt acc (nr y.1)).headD []).length ≤ 1 * B := Nat.mul_le_mul h4.2 h3
        omega
    have h1 := grow_len (B := B + 3) (fun q hq => hs q (by simp [hq])) h0 z hz
    have e : (y :: made).length = made.length + 1 := rfl
    rw [e]
    omega
theorem kupd {β : Type} {R : Rdr β} [MoT R] {H : Hp} {kvs : List (List Key × V)} {m : List (List Str × β)} {G : Addr} {u o : HO} (hG : H G = some u) (h1 : isT u = false) (h : KvT R H kvs m) : KvT R (upd H G o) kvs m :=
  pmap h fun _ _ r => ⟨r.1, upT (Tx.upd hG (fun _ k => by subst k; cases h1) fun _ _ k => by subst k; cases h1) r.2⟩
theorem kapp {β : Type} {R : Rdr β} {H : Hp} {kvs : List (List Key × V)} {m : List (List Str × β)} {p : List Str} {v : V} {x : β} (hn : p ∉ m.map (·.1)) (hp : ∀ y ∈ p, sOk y) (h : KvT R H kvs m) (r : R H v x) : KvT R H (putK kvs (kT p) v) (m ++ [(p, x)]) := by
  rw [putT_snoc]
  · exact psnoc h ⟨⟨rfl, hp⟩, r⟩
  · rw [kT_keys h]
    intro q
    obtain ⟨y, hy, e⟩ := List.mem_map.mp q
    rw [kT_inj e] at hy
    exact hn hy
theorem rPt_ok {H : Hp} {v : V} {p : List Str} (h : rPt H v p) : ∀ y ∈ p, sOk y := let ⟨_, _, _, k⟩ := rPt_at h; k
section
variable {P : Program} {w : World} {K : PySem.W.Frag} {mg : Str → Option Value} {base : Heap}
/-- methods that the law has made -/
structure Mok (rows : Rows Str) (m : Nat) (made : Made) : Prop where
  pts : ∀ p ∈ kys made, Pt (nms rows) m p
  sorted : Sorted (nms rows) (kys made)
  comp : Comp (near (leOf rows) (kys made)) nxt [] made
  small : Small made
structure MdI where
  (rows : Rows Str) (m : Nat) (made : Made) (ok : Rok rows) (hm : m ≤ 3) (mok : Mok rows m made)
abbrev grown (rows : Rows Str) (made : Made) : Made := grow (near (leOf rows) (kys made)) nxt [] made
abbrev sp__law_expansions : Sp := spOf (fun (i : MdI) => a3 rUps rMade rPts (upsOf i.rows) i.made (combos (nms i.rows) i.m)) fun i => nw (rDitU rBody) (grown i.rows i.made)
theorem ok__law_expansions (T : Txt K mg) (G__law_near : GFn P w K mg base "_law_near" 3 sp__law_near) (G__law_is_one : GFn P w K mg base "_law_is_one" 1 sp__law_is_one) : GFn P w K mg base "_law_expansions" 4 sp__law_expansions := by
  obtain ⟨fd, F⟩ := T.d__law_expansions
  have sc := (C8.fnScope_by (N := ["_law_ups_here", "_law_made", "_law_order", "_law_found", "_law_spot", "_law_nexts", "_law_steps", "_law_step", "_law_one"]) (P := ["_law_ups_here", "_law_made", "_law_order"]) (sc := defScope st__law_expansions) (by kernel_rfl))
  refine gfn T.g__law_expansions F sc (F.bindsN fun _ _ _ _ _ _ us hl => match us, hl with | [_, _, _], _ => rfl) (fun i vs H ⟨_, _, _, e, _⟩ => by rw [e]; rfl) ?_
  intro cdv A outer s H E ⟨rows, m, made, ok, hm, mok⟩ vs Q hr ⟨v1, v2, v3, e, r1, r2, r3⟩ hq
  have nd := sc.nd
  have hu := u1 hr
  have hu64 := u64 hr
  have hu65 := u65 hr
  subst e
  refine ⟨_, (PSs.nox (pss_cons (ps_set (i := 3) nd (by rfl) (by first | exact Or.inl rfl | exact Or.inr rfl) pe_dnewT)
      (pss_cons (ps_for PassesOwn.never (by rfl) (k_pil K (pe_lc (own := [("_law_one", 8)]) (by rfl) nd (k_pil K (pv 2)) (blkOk_by (by kernel_rfl)) (fun _ _ _ _ _ => (pg_name (i := 8) nd (by rfl) (by first | exact Or.inl rfl | exact Or.inr rfl))) (fun _ _ _ _ _ => (pts_one (pt_cmp (pc_din hu (pv 8) (pv 1))))) (fun _ _ _ _ _ => (pv 8)))) (pg_name (i := 4) nd (by rfl) (by first | exact Or.inl rfl | exact Or.inr rfl)) (pss_cons (ps_setLc (i := 5) (own := [("_law_one", 8)]) (by rfl) nd (by rfl) (by rfl) (sw_true (by rfl) (by rfl) (by rfl) (by kernel_rfl)) (k_pil K (kcall G__law_near hr (pa_cons (pv 0) (pa_cons (pv 1) (pa_cons (pv 4) pa_nil))))) (blkOk_by (by kernel_rfl)) (fun _ _ _ _ _ => (pg_name (i := 8) nd (by rfl) (by first | exact Or.inl rfl | exact Or.inr rfl))) (fun _ _ _ _ _ => pts_nil) (fun _ _ _ _ _ => (pe_dget hu (pv 3) (pv 8) (by intro _ _; rfl))))
      (pss_cons (ps_if (PW.pt (pw_and (pt_cmpR (k_inDT K hu65) (pe_tup (pa_cons pe_str pa_nil)) (pe_dget hu (pv 1) (pv 4) (by intro _ _; rfl)) (by rfl)) (pw_and1 (pt_not (pt_val (kcall G__law_is_one hr (pa_cons (pv 5) pa_nil))))))) (pss_one (ps_ret (pv 3))) pss_nil)
      (pss_cons (ps_set (i := 6) nd (by rfl) (by first | exact Or.inl rfl | exact Or.inr rfl) (pe_lst pa_nil))
      (pss_cons (ps_for PassesOwn.never (by rfl) (k_pit K (pe_dget hu (pv 1) (pv 4) (by intro _ _; rfl))) (pg_name (i := 7) nd (by rfl) (by first | exact Or.inl rfl | exact Or.inr rfl)) (pss_one (ps_expr (k_bm K PySem.F.plainAttrs_list PySem.F.slot_list_extend PySem.F.type_list_extend mt_extend (pv 6) (pa_cons (pe_ifExp (pt_cmpR (k_eqD K hu64) (pv 7) (pe_tup (pa_cons pe_str pa_nil)) (nomark _)) (pe_callTy (k_list_of K) (by rfl) T.list (by decide +kernel) (pa_cons (pe_ix (k_ixL K) (pv 5) pe_int (by intro _ _; rfl)) pa_nil)) (pe_lst (pa_cons (pv 7) pa_nil))) pa_nil)))))
      (pss_one (ps_dput hu (pv 3) (pv 4) (pe_callTy (k_tuple_of K) (by rfl) T.tuple (by decide +kernel) (pa_cons (pv 6) pa_nil)) (by rfl))))))))
      (pss_one (ps_ret (pv 3)))))), ?_⟩
  have hlen : (nms rows).length ≤ 20 := by unfold nms; rw [List.length_map]; exact ok.len
  have few := mok.small.few
  have hk8 : (kys made).length = made.length := List.length_map _
  have hfil : (combos (nms rows) m).filter (fun p => isIn p (kys made)) = kys made := sorted_filter ok.good.nodup mok.pts mok.sorted
  refine r_set dnewT fun v H1 e1 ⟨D, ev, hn, hD⟩ => ?_
  subst ev
  have hz : EvP (tLc (iList K (tVar 2)) (gName 8) (tB (tDIn (tVar 8) (tVar 1))) (tVar 8) [8]) ([some v1, some v2, some v3, some (V.ref D), none, none, none, none, none] : L2.St) H (nw (rLst rPt) (kys made)) := by
    rw [← hfil]
    refine lcF (R := rPt) (R' := rPt) (xs := combos (nms rows) m) (fun p => isIn p (kys made)) gm_name (i_list (var rfl r3)) (by have := combos_le (m := m) hlen hm; show (combos (nms rows) m).length ≤ _; omega) ?_
    intro j p vp H2 hp e2 rp
    exact ⟨Ex.refl _, rfl, Evl.et_B (inT (var rfl rp) (var rfl (rDitU.rd (up e2 r2)))), fun _ => (var rfl rp).flatI⟩
  refine sq (r_for (H := H) (j_new (R := rPt) hz) e1
    (fun j σ' H' => (∃ a b c d e, σ' = [some v1, some v2, some v3, some (V.ref D), a, b, c, d, e]) ∧ ∃ kvs, H' D = some (.dT kvs) ∧ KvT rBody H' kvs (grow (near (leOf rows) (kys made)) nxt [] (made.take j)))
    (fun H2 e2 => ⟨⟨_, _, _, _, _, rfl⟩, [], e2 D _ hD, .nil⟩) (fun Hn en hno j σ' H' hj hI eh v4 H3 e3 hy => ?_) fun σ' H' hI eh => ?_)
  · obtain ⟨⟨a, b0, c, d, e0, rfl⟩, kvs, hkv, rkv⟩ := hI
    obtain ⟨p, hp, rp⟩ := hy
    have e03 : Ex H H3 := (en.trans eh).trans e3
    have hD3 : H3 D = some (.dT kvs) := e3 D _ hkv
    have hHn : Hn D = none := hno D _ hn hD rfl
    have rkv3 : KvT rBody H3 kvs (grow (near (leOf rows) (kys made)) nxt [] (made.take j)) := pmap rkv fun _ _ r => ⟨r.1, up e3 r.2⟩
    have hjm : j < made.length := by rw [hk8] at hj; exact hj
    obtain ⟨⟨p', b⟩, hmj⟩ : ∃ z, made[j]? = some z := ⟨_, List.getElem?_eq_getElem hjm⟩
    have hpp : p' = p := by
      have : (kys made)[j]? = some p' := by show (made.map (·.1))[j]? = _; rw [List.getElem?_map, hmj]; rfl
      rw [hp] at this
      exact (Option.some.inj this).symm
    subst hpp
    have hmem : (p', b) ∈ made := List.mem_of_getElem? hmj
    have hpk : p' ∈ kys made := List.mem_of_getElem? hp
    have split : made = made.take j ++ (p', b) :: made.drop (j + 1) := by
      have h1 := (List.getElem?_eq_some_iff.mp hmj).2
      rw [← h1, List.getElem_cons_drop, List.take_append_drop]
    have ksplit : kys made = kys (made.take j) ++ p' :: kys (made.drop (j + 1)) := by
      show made.map (·.1) = _
      rw [show made.map (·.1) = (made.take j ++ (p', b) :: made.drop (j + 1)).map (·.1) from congrArg _ split, List.map_append, List.map_cons]
    generalize hnr : near (leOf rows) (kys made) = nr at *
    generalize hacc : grow nr nxt [] (made.take j) = acc at *
    have hak : acc.map (·.1) = kys (made.take j) := by rw [← hacc, grow_keys]; simp
    have hnear : ∀ q ∈ nr p', q ∈ acc.map (·.1) := by
      rw [hak, ← hnr]
      intro q hq
      rw [ksplit] at hq
      exact near_ahead ok.good.grid (by rw [← ksplit]; exact mok.pts) (by rw [← ksplit]; exact mok.sorted) q hq
    have hcomp : nxt ∈ b → isOne (valsAt acc (nr p')) = true := by
      have h1 := mok.comp
      rw [hnr, split, comp_append, hacc] at h1
      exact h1.2.1
    have hatb : at? made p' = some b := at?_mem mok.sorted.nodup hmem
    have hacc24 : ∀ z ∈ acc, z.2.length ≤ 0 + 3 * (made.take j).length := by
      rw [← hacc]
      exact grow_len (fun z hz => mok.small.short z (List.mem_of_mem_take hz)) (fun z hz => by cases hz)
    have hnl : (nr p').length ≤ 1000 := by
      rw [← hnr]
      unfold near lows maxs
      refine Nat.le_trans (List.length_filter_le _ _) (Nat.le_trans (List.length_filter_le _ _) ?_)
      omega
    -- the expansions above
    refine r_set (P := nw (rLst rBody) (valsAt acc (nr p'))) (lcM (R := rPt) (R' := rBody) (xs := nr p') (fun q => (at? acc q).getD []) gm_name (i_list (EvP.of_nw ?_)) (by omega) ?_) fun v5 H4 e4 ⟨N, ev, hN, rN⟩ => ?_
    · rw [← hnr]
      exact call_ (P := fun (i : NrI) => nw rPts (near (leOf i.rows) (kys i.made) i.s)) ⟨rows, m, made, p', ok.good, mok.pts, mok.pts _ hpk, hm, by omega⟩ (ea3 (var rfl (up e03 r1)) (var rfl (up e03 r2)) (var rfl rp))
    · intro k q vq H5 hq e5 rq
      obtain ⟨u, hu', _⟩ := at?_some (hnear q (List.mem_of_getElem? hq))
      refine ⟨Ex.refl _, rfl, et_yes, EvP.flatI ?_⟩
      rw [hu']
      exact getT (R := rBody) (var rfl (show rDit rBody H5 (.ref D) acc from ⟨D, kvs, rfl, .inl (e5 D _ hD3), pmap rkv3 fun _ _ r => ⟨r.1, up e5 r.2⟩⟩)) (var rfl rq) hu'
    subst ev
    have e04 := e03.trans e4
    -- no end here
    refine r_not (Evl.et_is (Evl.et_and (Evl.et_test (inDTup (R := rPt) (by decide) nxt_ok (EvP.d (R := rPt) (EvP.of_nw (tup_ (R := rStr) (pa1 (const ok_next) pa0) (by decide)))) (getT (R := rBody) (var rfl (rDitU.rd (up e04 r2))) (var rfl (up e4 rp)) hatb))) fun _ => Evl.et_not (Evl.et_B (isone_ (vs := valsAt acc (nr p')) (by unfold valsAt; rw [List.length_map]; exact hnl) (var rfl rN)))) ?_) fun H5 e5 => ?_
    · cases k : isIn nxt b with
      | false => rfl
      | true => rw [hcomp (isIn_iff.mp k)]; rfl
    have e05 := e04.trans e5
    refine r_set (lst_ (R := rPt) pa0 (by decide)) fun v6 H6 e6 ⟨S, ev, hS, bb, vs0, eb, hvs, rv⟩ => ?_
    subst ev
    cases eb
    have hblen := (mok.small.short _ hmem).1
    have hst : ((valsAt acc (nr p')).headD []).length ≤ 24 := by
      have h1 := head_len (vals_len hacc24 (nr p'))
      have h2 : (made.take j).length ≤ 8 := Nat.le_trans (List.length_take_le' _ _) few
      omega
    refine sq (r_for (H := H5) (j_tup (R := rPt) (getT (R := rBody) (var rfl (rDitU.rd (up e05 r2))) (var rfl (up (e4.trans e5) rp)) hatb)) e6
      (fun k σ2 H' => (∃ x y, σ2 = [some v1, some v2, some v3, some (V.ref D), some v4, some (V.ref N), some (V.ref S), x, y]) ∧ ∃ us, H' S = some (.lst us) ∧ Paired (rPt H') us (subst nxt (b.take k) ((valsAt acc (nr p')).headD [])))
      (fun H7 e7 => ⟨⟨_, _, rfl⟩, vs0, e7 S _ hvs, pmap rv fun _ _ r => up e7 r⟩) (fun Hm em hmo k σ2 H7 hk hJ e7 v8 H8 e8 hy8 => ?_) fun σ2 H7 hJ e7 => ?_)
    · obtain ⟨⟨x, y, rfl⟩, us, hus, ru⟩ := hJ
      obtain ⟨st, hst', rst⟩ := hy8
      have hS8 := e8 S _ hus
      have hMS : Hm S = none := hmo S _ hS hvs rfl
      have e58 : Ex H5 H8 := (em.trans e7).trans e8
      have hlen2 := subst_len (nx := nxt) (st := (valsAt acc (nr p')).headD []) (b.take k)
      have hcnt : cnt nxt (b.take k) ≤ 1 := Nat.le_trans (cnt_take _ _ _) (mok.small.short _ hmem).2
      have hmul : cnt nxt (b.take k) * ((valsAt acc (nr p')).headD []).length ≤ 1 * 24 := Nat.mul_le_mul hcnt hst
      have htk : (b.take k).length ≤ 3 := Nat.le_trans (List.length_take_le' _ _) hblen
      refine r_extend (R := rPt) (xs := if st = nxt then (valsAt acc (nr p')).headD [] else [st]) hS8 (Evl.ev_var rfl) (EvP.of_nw (if_ (b := decide (st = nxt)) (Evl.et_test (eqD (R := rPt) (by decide) (var rfl rst) (EvP.of_nw (tup_ (R := rStr) (pa1 (const ok_next) pa0) (by decide))))) (fun hb => ?_) fun hb => ?_)) ?_ fun ws H9 e9 pw => ?_
      · have hb := of_decide_eq_true hb
        rw [if_pos hb]
        have h1 := hcomp (by rw [← hb]; exact List.mem_of_getElem? hst')
        refine list_t (ixL (R := rBody) (j := 0) (var rfl (up (e5.trans e58) rN)) Evl.ev_c ?_)
        cases q : valsAt acc (nr p') with
        | nil => rw [q] at h1; cases h1
        | cons z zs => rfl
      · rw [if_neg (of_decide_eq_false hb)]
        exact lst_ (pa1 (var rfl rst) pa0) (by simp)
      · have h1 := plen ru
        split
        · omega
        · simp
          omega
      · refine ⟨⟨⟨_, _, rfl⟩, us ++ ws, upd_same, ?_⟩, Ex.mut ((e7.trans e8).trans e9) hMS⟩
        have ht : subst nxt (b.take (k + 1)) ((valsAt acc (nr p')).headD []) = subst nxt (b.take k) ((valsAt acc (nr p')).headD []) ++ (if st = nxt then (valsAt acc (nr p')).headD [] else [st]) := by
          rw [List.take_add_one, hst']
          show List.flatMap _ _ = _
          rw [List.flatMap_append]
          simp [subst]
        rw [ht]
        exact papp (pupd (e9 S _ hS8) (pmap ru fun _ _ r => up (e8.trans e9) r)) (pupd (e9 S _ hS8) pw)
    · obtain ⟨⟨x, y, rfl⟩, us, hus, ru⟩ := hJ
      rw [List.take_length] at ru
      have e37 := (e4.trans e5).trans e7
      refine r_dputT (R := rBody) (e37 D _ hD3) (EvP.tr (EvP.of_nw (tuple_l (R := rPt) (var rfl (show rLst rPt H7 (.ref S) _ from ⟨S, us, rfl, hus, ru⟩))))) (Evl.ev_var rfl) (var rfl (up e37 rp)) ?_ fun v9 H9 e9 r9 => ⟨⟨⟨_, _, _, _, _, rfl⟩, _, upd_same, ?_⟩, Ex.mut (((eh.trans e3).trans e37).trans e9) hHn⟩
      · have h1 := plen rkv
        have h2 : acc.length = (made.take j).length := by
          have := congrArg List.length hak
          rw [List.length_map] at this
          rw [this]
          exact List.length_map _
        have h3 : (made.take j).length ≤ 8 := Nat.le_trans (List.length_take_le' _ _) few
        omega
      · have hg : grow nr nxt [] (made.take (j + 1)) = acc ++ [(p', subst nxt b ((valsAt acc (nr p')).headD []))] := by
          rw [List.take_add_one, hmj, grow_append, hacc]
          rfl
        rw [hg]
        have hD9 := e9 D _ (e37 D _ hD3)
        refine kapp ?_ (rPt_ok rp) (kupd hD9 rfl (pmap rkv3 fun _ _ r => ⟨r.1, up (e37.trans e9) r.2⟩)) (upT (Tx.upd hD9 (fun _ k => by cases k) fun _ _ k => by cases k) r9)
        rw [hak]
        intro q
        have h1 := mok.sorted.nodup
        rw [ksplit, List.nodup_append] at h1
        exact h1.2.2 p' q p' (by simp) rfl
  · obtain ⟨⟨a, b, c, d, e0, rfl⟩, kvs, hkv, rkv⟩ := hI
    rw [hk8, List.take_length] at rkv
    exact r_retV (Evl.ev_var rfl) fun H2 e2 => hq _ _ (eh.trans e2) ⟨D, rfl, hn, D, kvs, rfl, e2 D _ hkv, pmap rkv fun _ _ r => ⟨r.1, up e2 r.2⟩⟩
/-- what the law's answer tells of a point -/
def rAny : Rdr Unit := fun _ _ _ => True
instance : MoT rAny := ⟨fun _ _ => trivial⟩
instance : MonoW rAny := ⟨fun _ _ => trivial⟩
def told (vs : List (List (List Str))) : Str := if vs = [] then "none" else if isOne vs = true then "answered" else "ambiguous"
abbrev valsOf (rows : Rows Str) (made : Made) (s : List Str) : List (List (List Str)) := valsAt (grown rows made) (rivals (leOf rows) (kys made) s)
structure AnI where
  (rows : Rows Str) (m : Nat) (made : Made) (s : List Str) (ok : Rok rows) (hm : m ≤ 3) (mok : Mok rows m made) (hs : Pt (nms rows) m s)
abbrev sp__law_answer : Sp := spOf (fun (i : AnI) => a4 rUps rMade (rDitU rBody) rPt (upsOf i.rows) i.made (grown i.rows i.made) i.s) fun i => nw (rPair rStr rAny) (told (valsOf i.rows i.made i.s), ())
theorem rivals_in {rows : Rows Str} {ks : List (List Str)} {s p : List Str} (h : p ∈ rivals (leOf rows) ks s) : p ∈ ks := (mem_rivals.mp h).1.1
theorem rivals_le {rows : Rows Str} {ks : List (List Str)} {s : List Str} : (rivals (leOf rows) ks s).length ≤ ks.length := Nat.le_trans (List.length_filter_le _ _) (List.length_filter_le _ _)
theorem grown_keys (rows : Rows Str) (made : Made) : (grown rows made).map (·.1) = kys made := by
  unfold grown
  rw [grow_keys]
  rfl
theorem ok__law_answer (T : Txt K mg) (G__law_rivals : GFn P w K mg base "_law_rivals" 3 sp__law_rivals) (G__law_is_one : GFn P w K mg base "_law_is_one" 1 sp__law_is_one) : GFn P w K mg base "_law_answer" 4 sp__law_answer := by
  obtain ⟨fd, F⟩ := T.d__law_answer
  have sc := (C8.fnScope_by (N := ["_law_ups_here", "_law_made", "_law_grown", "_law_spot", "_law_values", "_law_one"]) (P := ["_law_ups_here", "_law_made", "_law_grown", "_law_spot"]) (sc := defScope st__law_answer) (by kernel_rfl))
  refine gfn T.g__law_answer F sc (F.bindsN fun _ _ _ _ _ _ us hl => match us, hl with | [_, _, _, _], _ => rfl) (fun i vs H ⟨_, _, _, _, e, _⟩ => by rw [e]; rfl) ?_
  intro cdv A outer s H E ⟨rows, m, made, s0, ok, hm, mok, hs⟩ vs Q hr ⟨v1, v2, v3, v4, e, r1, r2, r3, r4⟩ hq
  have nd := sc.nd
  have hu := u1 hr
  have hu64 := u64 hr
  subst e
  refine ⟨_, (PSs.nox (pss_cons (ps_setLc (i := 4) (own := [("_law_one", 5)]) (by rfl) nd (by rfl) (by rfl) (sw_true (by rfl) (by rfl) (by rfl) (by kernel_rfl)) (k_pil K (kcall G__law_rivals hr (pa_cons (pv 0) (pa_cons (pv 1) (pa_cons (pv 3) pa_nil))))) (blkOk_by (by kernel_rfl)) (fun _ _ _ _ _ => (pg_name (i := 5) nd (by rfl) (by first | exact Or.inl rfl | exact Or.inr rfl))) (fun _ _ _ _ _ => pts_nil) (fun _ _ _ _ _ => (pe_dget hu (pv 2) (pv 5) (by intro _ _; rfl))))
      (pss_cons (ps_if (pt_cmpR (k_eqD K hu64) (pv 4) (pe_lst pa_nil) (nomark _)) (pss_one (ps_ret (pe_tup (pa_cons pe_str (pa_cons pe_non pa_nil))))) pss_nil)
      (pss_one (ps_ret (pe_ifExp (pt_val (kcall G__law_is_one hr (pa_cons (pv 4) pa_nil))) (pe_tup (pa_cons pe_str (pa_cons (pe_ix (k_ixL K) (pv 4) pe_int (by intro _ _; rfl)) pa_nil))) (pe_tup (pa_cons pe_str (pa_cons pe_non pa_nil))))))))), ?_⟩
  have few := mok.small.few
  have hk8 : (kys made).length = made.length := List.length_map _
  have hrl := rivals_le (rows := rows) (ks := kys made) (s := s0)
  refine r_set (P := nw (rLst rBody) (valsOf rows made s0)) (lcM (R := rPt) (R' := rBody) (xs := rivals (leOf rows) (kys made) s0) (fun q => (at? (grown rows made) q).getD []) gm_name (i_list (EvP.of_nw
    (call_ (P := fun (i : NrI) => nw rPts (rivals (leOf i.rows) (kys i.made) i.s)) ⟨rows, m, made, s0, ok.good, mok.pts, hs, hm, by omega⟩ (ea3 (var rfl r1) (var rfl r2) (var rfl r4))))) (by omega) ?_) fun v5 H1 e1 ⟨N, ev, hN, rN⟩ => ?_
  · intro k q vq H5 hq e5 rq
    have hqk : q ∈ (grown rows made).map (·.1) := by rw [grown_keys]; exact rivals_in (List.mem_of_getElem? hq)
    obtain ⟨u, hu', _⟩ := at?_some hqk
    refine ⟨Ex.refl _, rfl, et_yes, EvP.flatI ?_⟩
    rw [hu']
    exact getT (R := rBody) (var rfl (rDitU.rd (up e5 r3))) (var rfl rq) hu'
  subst ev
  refine r_if (Evl.et_test (eqD (R := rLst rBody) (by decide) (var rfl rN) (EvP.of_nw (lst_ (R := rBody) pa0 (by decide))))) (fun hb H2 e2 => ?_) fun hb H2 e2 => ?_
  · have hb := of_decide_eq_true hb
    refine r_ret (P := nw (rPair rStr rAny) (told (valsOf rows made s0), ())) (by
      have : told (valsOf rows made s0) = "none" := by unfold told; rw [if_pos hb]
      rw [this]
      exact pair_ (const (by unfold sOk; decide +kernel)) (.of_ev Evl.ev_c fun _ _ _ _ => trivial)) fun v H3 e3 p => hq v H3 ((e1.trans e2).trans e3) (Dn.dn (e1.trans e2) p)
  · have hb := of_decide_eq_false hb
    have hl : (valsOf rows made s0).length ≤ 1000 := by unfold valsOf valsAt; rw [List.length_map]; omega
    refine r_ret (P := nw (rPair rStr rAny) (told (valsOf rows made s0), ())) (if_ (Evl.et_B (isone_ hl (var rfl (up e2 rN)))) (fun h1 => ?_) fun h1 => ?_) fun v H3 e3 p => hq v H3 ((e1.trans e2).trans e3) (Dn.dn (e1.trans e2) p)
    · have : told (valsOf rows made s0) = "answered" := by unfold told; rw [if_neg hb, if_pos h1]
      rw [this]
      refine pair_ (const (by unfold sOk; decide +kernel)) ?_
      cases q : valsOf rows made s0 with
      | nil => exact absurd q hb
      | cons z zs =>
        exact (ixL (R := rBody) (j := 0) (x := z) (var rfl (up e2 rN)) Evl.ev_c (by rw [q]; rfl)).imp fun _ _ _ _ _ _ => trivial
    · have : told (valsOf rows made s0) = "ambiguous" := by unfold told; rw [if_neg hb, if_neg (by rw [h1]; decide)]
      rw [this]
      exact pair_ (const (by unfold sOk; decide +kernel)) (.of_ev Evl.ev_c fun _ _ _ _ => trivial)
abbrev meets (rows : Rows Str) (m : Nat) (s a b : List Str) : Prop := s ∈ highs (leOf rows) ((combos (nms rows) m).filter fun e => pLe (leOf rows) e a && pLe (leOf rows) e b)
structure IsI where
  (rows : Rows Str) (m : Nat) (made : Made) (s : List Str) (ok : Rok rows) (hm : m ≤ 3) (pts : ∀ p ∈ kys made, Pt (nms rows) m p) (hit : ∃ a ∈ kys made, ∃ b ∈ kys made, meets rows m s a b)
abbrev sp__law_is_meet : Sp := spOf (fun (i : IsI) => a4 rUps rPts rMade rPt (upsOf i.rows) (combos (nms i.rows) i.m) i.made i.s) fun _ => is rBool true
theorem ok__law_is_meet (T : Txt K mg) (G__law_is_under : GFn P w K mg base "_law_is_under" 1 sp__law_is_under) (G__law_highest : GFn P w K mg base "_law_highest" 2 sp__law_highest) : GFn P w K mg base "_law_is_meet" 3 sp__law_is_meet := by
  obtain ⟨fd, F⟩ := T.d__law_is_meet
  have sc := (C8.fnScope_by (N := ["_law_ups_here", "_law_order", "_law_made", "_law_spot", "_law_one", "_law_other", "_law_common", "_law_each"]) (P := ["_law_ups_here", "_law_order", "_law_made", "_law_spot"]) (sc := defScope st__law_is_meet) (by kernel_rfl))
  refine gfn T.g__law_is_meet F sc (F.bindsN fun _ _ _ _ _ _ us hl => match us, hl with | [_, _, _, _], _ => rfl) (fun i vs H ⟨_, _, _, _, e, _⟩ => by rw [e]; rfl) ?_
  intro cdv A outer s H E ⟨rows, m, made, s0, ok, hm, pts, hit⟩ vs Q hr ⟨v1, v2, v3, v4, e, r1, r2, ⟨d, kvs, e3, hd, r3⟩, r4⟩ hq
  have nd := sc.nd
  have hu65 := u65 hr
  subst e e3
  refine ⟨_, (PSs.nox (pss_cons (ps_lock (ps_for PassesOwn.never (by rfl) (pi_keys (pv 2)) (pg_name (i := 4) nd (by rfl) (by first | exact Or.inl rfl | exact Or.inr rfl)) (pss_one (ps_for PassesOwn.never (by rfl) (pi_keys (pv 2)) (pg_name (i := 5) nd (by rfl) (by first | exact Or.inl rfl | exact Or.inr rfl)) (pss_cons (ps_setLc (i := 6) (own := [("_law_each", 7)]) (by rfl) nd (by rfl) (by rfl) (sw_true (by rfl) (by rfl) (by rfl) (by kernel_rfl)) (k_pil K (pv 1)) (blkOk_by (by kernel_rfl)) (fun _ _ _ _ _ => (pg_name (i := 7) nd (by rfl) (by first | exact Or.inl rfl | exact Or.inr rfl))) (fun _ _ _ _ _ => (pts_one (PW.pt (pw_and (pt_val (kcall G__law_is_under hr (pa_cons (pv 0) (pa_cons (pv 7) (pa_cons (pv 4) pa_nil))))) (pw_and1 (pt_val (kcall G__law_is_under hr (pa_cons (pv 0) (pa_cons (pv 7) (pa_cons (pv 5) pa_nil)))))))))) (fun _ _ _ _ _ => (pv 7)))
      (pss_one (ps_if (pt_cmpR (k_inD K hu65) (pv 3) (kcall G__law_highest hr (pa_cons (pv 0) (pa_cons (pv 6) pa_nil))) (by rfl)) (pss_one (ps_ret pe_bl)) pss_nil)))))))
      (pss_one (ps_ret pe_bl)))), ?_⟩
  have hlen : (nms rows).length ≤ 20 := by unfold nms; rw [List.length_map]; exact ok.len
  have hc8 := combos_le (m := m) hlen hm
  refine sq ⟨d, .dT kvs, hd, trivial, fun od => ?_⟩
  have w1 := Exw.lock (od := od) hd trivial
  have rl : KvT rBody (upd H d (.frz od (.dT kvs))) kvs made := pmap r3 fun _ _ h => ⟨h.1, upW w1 h.2⟩
  generalize hHl : upd H d (.frz od (.dT kvs)) = Hl at *
  have hdl : Hl d = some (.frz od (.dT kvs)) := by rw [← hHl]; exact upd_same
  have q1 : rUps Hl v1 (upsOf rows) := upW w1 r1
  have q2 : rPts Hl v2 (combos (nms rows) m) := upW w1 r2
  have q4 : rPt Hl v4 s0 := upW w1 r4
  have back : ∀ H', Ex Hl H' → Ex H (upd H' d (.dT kvs)) := fun H' e => ex_unlock (od := od) hd (by rw [hHl]; exact e)
  refine r_for (H := Hl) (j_keysT (Evl.ev_var rfl) hdl rl) (Ex.refl _)
    (fun j σ' H' => (∃ a b c e, σ' = [some v1, some v2, some (V.ref d), some v4, a, b, c, e]) ∧ ∀ a ∈ (kys made).take j, ∀ b ∈ kys made, ¬ meets rows m s0 a b)
    (fun H2 e2 => ⟨⟨_, _, _, _, rfl⟩, fun a ha => by cases ha⟩) (fun Hn en hno j σ' H' hj hI eh v5 H3 e3 hy => ?_) fun σ' H' hI eh => ?_
  · obtain ⟨⟨a, b, c, e, rfl⟩, hI⟩ := hI
    obtain ⟨p, hp, rp⟩ := hy
    have e03 := (en.trans eh).trans e3
    refine r_for (H := H3) (j_keysT (Evl.ev_var rfl) (e03 d _ hdl) (pmap rl fun _ _ h => ⟨h.1, up e03 h.2⟩)) (Ex.refl _)
      (fun k σ2 H' => (∃ b c e, σ2 = [some v1, some v2, some (V.ref d), some v4, some v5, b, c, e]) ∧ ∀ b ∈ (kys made).take k, ¬ meets rows m s0 p b)
      (fun H2 e2 => ⟨⟨_, _, _, rfl⟩, fun a ha => by cases ha⟩) (fun Hm em hmo k σ2 H5 hk hJ e5 v6 H6 e6 hy6 => ?_) fun σ2 H5 hJ e5 => ?_
    · obtain ⟨⟨b, c, e, rfl⟩, hJ⟩ := hJ
      obtain ⟨p2, hp2, rp2⟩ := hy6
      have e36 := (em.trans e5).trans e6
      have e06 := e03.trans e36
      refine r_set (lcF (R := rPt) (R' := rPt) (xs := combos (nms rows) m) (fun e => pLe (leOf rows) e p && pLe (leOf rows) e p2) gm_name (i_list (var rfl (up e06 q2))) (by omega) fun k2 x v7 H7 hx e7 rx => ?_) fun v8 H8 e8 ⟨N, ev, hN, rN⟩ => ?_
      · have hxp := mem_combos.mp (List.mem_of_getElem? hx)
        exact ⟨Ex.refl _, rfl, Evl.et_and (Evl.et_B (under_ ok.good hxp (pts p (List.mem_of_getElem? hp)) hm (var rfl (up (e06.trans e7) q1)) (var rfl rx) (var rfl (up (e36.trans e7) rp)))) fun _ => Evl.et_B (under_ ok.good hxp (pts p2 (List.mem_of_getElem? hp2)) hm (var rfl (up (e06.trans e7) q1)) (var rfl rx) (var rfl (up e7 rp2))), fun _ => (var rfl rx).flatI⟩
      · subst ev
        have e08 := e06.trans e8
        refine Evl.s_if (Evl.et_test (inD (R := rPt) (by decide) (var rfl (up e08 q4)) (EvP.of_nw (call_ (P := fun (i : LoI) => nw rPts (highs (leOf i.rows) i.ps)) ⟨rows, m, (combos (nms rows) m).filter fun e => pLe (leOf rows) e p && pLe (leOf rows) e p2, ok.good, fun q hq => mem_combos.mp (List.mem_filter.mp hq).1, hm, Nat.le_trans (List.length_filter_le _ _) (by omega)⟩ (ea2 (var rfl (up e08 q1)) (var rfl rN)))))) (fun hb H9 e9 => ?_) fun hb H9 e9 => ?_
        · exact r_retV Evl.ev_c fun H10 e10 => ⟨((e08.trans e9).trans e10) d _ hdl, hq _ _ (back _ ((e08.trans e9).trans e10)) rfl⟩
        · refine ⟨⟨⟨_, _, _, rfl⟩, fun b hb2 => ?_⟩, ((e5.trans e6).trans e8).trans e9⟩
          rw [List.take_add_one, hp2, List.mem_append] at hb2
          rcases hb2 with hb2 | hb2
          · exact hJ b hb2
          · have hb2 : b = p2 := by simpa using hb2
            rw [hb2]
            exact fun z => by rw [isIn_not] at hb; exact hb z
    · obtain ⟨⟨b, c, e, rfl⟩, hJ⟩ := hJ
      have hJ : ∀ b ∈ kys made, ¬ meets rows m s0 p b := by
        have : (made.map (·.1)).length = (kys made).length := rfl
        rw [this, List.take_length] at hJ
        exact hJ
      refine ⟨⟨⟨_, _, _, _, rfl⟩, fun a ha => ?_⟩, (eh.trans e3).trans e5⟩
      rw [List.take_add_one, hp, List.mem_append] at ha
      rcases ha with ha | ha
      · exact hI a ha
      · have ha : a = p := by simpa using ha
        rw [ha]
        exact hJ
  · obtain ⟨_, hI⟩ := hI
    have : (made.map (·.1)).length = (kys made).length := rfl
    rw [this, List.take_length] at hI
    obtain ⟨a, ha, b, hb, h⟩ := hit
    exact absurd h (hI a ha b hb)
end
end FM

/-! ## FTab -/
set_option Elab.async false
set_option linter.all false
set_option maxRecDepth 100000
set_option maxHeartbeats 2000000
/-! The table: its readers; what holds of a point. -/
namespace FM
open PySem PySem.Spec PyProof.Rows L2
open Evl (Ex EvT Ev)
abbrev TbX := Rows Str × Nat × Made
abbrev fsM (h : V) (m : Nat) (db dn de : Addr) : List (Str × V) := [("class_order", h), ("parameter_count", .int (m : Int)), ("bodies", .ref db), ("next_steps", .ref dn), ("expanded", .ref de)]
/-- a table with its hierarchy and bodies; the bodies may be held -/
def rMb (K : PySem.W.Frag) : Rdr TbX := fun H v i => ∃ a dx h db dn de, v = .ref a ∧ H a = some (.ins (He.ga K "MethodTable") dx (fsM h i.2.1 db dn de)) ∧ rH K H h i.1 ∧ rDit rBodyN H (.ref db) i.2.2
instance {K : PySem.W.Frag} : Mono (rMb K) := ⟨fun e ⟨a, dx, h, db, dn, de, h1, h2, h3, h4⟩ => ⟨a, dx, h, db, dn, de, h1, e a _ h2, up (R := rH K) e h3, up (R := rDit rBodyN) e h4⟩⟩
/-- .. with these expansions -/
def rMe (K : PySem.W.Frag) : Rdr Made := fun H v ex => ∃ a dx h m db dn de, v = .ref a ∧ H a = some (.ins (He.ga K "MethodTable") dx (fsM h m db dn de)) ∧ rDit rBody H (.ref de) ex
instance {K : PySem.W.Frag} : Mono (rMe K) := ⟨fun e ⟨a, dx, h, m, db, dn, de, h1, h2, h3⟩ => ⟨a, dx, h, m, db, dn, de, h1, e a _ h2, up (R := rDit rBody) e h3⟩⟩
/-- a table that is made -/
def rM (K : PySem.W.Frag) : Rdr TbX := fun H v i => rMb K H v i ∧ rMe K H v (grown i.1 i.2.2)
instance {K : PySem.W.Frag} : Mono (rM K) := ⟨fun e h => ⟨up (R := rMb K) e h.1, up (R := rMe K) e h.2⟩⟩
section
variable {K : PySem.W.Frag} {i : TbX} {m : Str}
theorem rMb_ob (h : ∀ h n db dn de, (fsM h n db dn de).lookup m = none) : ∀ {H : Hp} {v : V}, rMb K H v i → ∃ a dx fs, v = .ref a ∧ H a = some (.ins (He.ga K "MethodTable") dx fs) ∧ fs.lookup m = none := fun ⟨a, dx, o, db, dn, de, h1, h2, _⟩ => ⟨a, dx, _, h1, h2, h _ _ _ _ _⟩
theorem rMe_ob {ex : Made} (h : ∀ h n db dn de, (fsM h n db dn de).lookup m = none) : ∀ {H : Hp} {v : V}, rMe K H v ex → ∃ a dx fs, v = .ref a ∧ H a = some (.ins (He.ga K "MethodTable") dx fs) ∧ fs.lookup m = none := fun ⟨a, dx, o, n, db, dn, de, h1, h2, _⟩ => ⟨a, dx, _, h1, h2, h _ _ _ _ _⟩
end
theorem srt_eq {rows : Rows Str} {m : Nat} {ps : List (List Str)} (ok : Rok rows) (hp : ∀ p ∈ ps, Pt (nms rows) m p) (hs : Sorted (nms rows) ps) : srt rows m ps = ps :=
  sorted_eq (m := m) (fun p h => mem_combos.mp (List.mem_filter.mp h).1) hp ((combos_sorted ok.good.nodup m).filter _) hs fun p => by
    rw [List.mem_filter, isIn_iff]
    exact ⟨fun h => h.2, fun h => ⟨mem_combos.mpr (hp p h), h⟩⟩
section
variable {P : Program} {w : World} {K : PySem.W.Frag} {mg : Str → Option Value} {base : Heap}
abbrev sp_ipl : Sp := spOf (fun (i : PtI) => a3 (rH K) rPt rInt i.rows i.p (i.m : Int)) fun _ => is rBool true
theorem ok_is_point_of_length (T : Txt K mg) (G_is_point : GFn P w K mg base "is_point" 2 (sp_is_point (K := K))) : GFn P w K mg base "is_point_of_length" 3 (sp_ipl (K := K)) := by
  obtain ⟨fd, F⟩ := T.d_is_point_of_length
  have sc := (C8.fnScope_by (N := ["hierarchy", "value", "count"]) (P := ["hierarchy", "value", "count"]) (sc := defScope st_is_point_of_length) (by kernel_rfl))
  refine gfn T.g_is_point_of_length F sc (F.bindsN fun _ _ _ _ _ _ us hl => match us, hl with | [_, _, _], _ => rfl) (fun i vs H ⟨_, _, _, e, _⟩ => by rw [e]; rfl) ?_
  intro cdv A outer s H E ⟨rows, m, p, hp, h1, h3⟩ vs Q hr ⟨v1, v2, v3, e, r1, r2, r3⟩ hq
  have nd := sc.nd
  subst e
  refine ⟨_, (PSs.nox (pss_one (ps_ret (pe_and (kcall G_is_point hr (pa_cons (pv 0) (pa_cons (pv 1) pa_nil))) (pe_one (pe_cmpR op_eq (pe_callB (k_len K) (by rfl) T.len (by decide +kernel) (pa_cons (pv 1) pa_nil)) (pv 2) (nomark _))))))), ?_⟩
  refine r_ret (P := is rBool true) (Ev.b (b := true) (Evl.ev_is (Evl.ev_andV (point_ hp h1 h3 (var rfl r1) (var rfl r2)) fun _ => Evl.ev_op (len_t (var rfl (rTup.r r2))) (int_ (var rfl r3)) (Evl.rv_eq rfl)) ?_)) hq
  rw [show ((p.length : Nat) : Int) = ((m : Nat) : Int) by rw [hp.1]]
  simp
/-- a table and a point -/
structure TbI where
  (rows : Rows Str) (m : Nat) (made : Made) (s : List Str) (hs : Pt (nms rows) m s) (h1 : 1 ≤ m) (h3 : m ≤ 3) (ok : Rok rows) (pts : ∀ p ∈ kys made, Pt (nms rows) m p) (sorted : Sorted (nms rows) (kys made)) (few : made.length ≤ 8)
abbrev aTb (K : PySem.W.Frag) (i : TbI) : List V → Hp → Prop := a2 (rMb K) rPt (i.rows, i.m, i.made) i.s
abbrev sp_app : Sp := spOf (aTb K) fun i => nw rPts ((kys i.made).filter fun q => pLe (leOf i.rows) i.s q)
theorem ok_MethodTable_applicable_at (T : Txt K mg) (G_lies_at_or_below : GFn P w K mg base "lies_at_or_below" 4 (sp_lies (K := K))) : GMt P w K mg base "MethodTable" "applicable_at" 5 (sp_app (K := K)) := by
  obtain ⟨fd, F⟩ := T.d_MethodTable_applicable_at
  have sc := (C8.fnScope_by (N := ["self", "point", "method"]) (P := ["self", "point"]) (sc := defScope st_MethodTable_applicable_at) (by kernel_rfl))
  refine gmt T.cls_MethodTable T.m_MethodTable_applicable_at F sc (F.bindsN fun _ _ _ _ _ _ us hl => match us, hl with | [_, _], _ => rfl) (fun i vs H ⟨_, _, e, _⟩ => by rw [e]; rfl) ?_
  intro cdv A outer s H E ⟨rows, m, made, s0, hs, h1, h3, ok, pts, sorted, few⟩ vs Q hr ⟨v1, v2, e, ⟨a, dx, h, db, dn, de, e1, ha, rh, dd, kvs, ed, hd, rd⟩, r2⟩ hq
  have nd := sc.nd
  subst e e1
  cases ed
  have hk8 : (kys made).length = made.length := List.length_map _
  -- one turn of the walk, in a heap where the bodies are held
  have go : ∀ {L : Hp} {o : Obj}, L a = some (.ins (He.ga K "MethodTable") dx (fsM h m db dn de)) → L db = some (.frz o (.dT kvs)) → rH K L h rows → KvT rBodyN L kvs made → rPt L v2 s0 →
      EvP (tLc (iKeys (tFld K (tVar 0) "bodies")) (gName 2) (tB (tCall (sp_lies (K := K)) [] E0 (tCons (tFld K (tVar 0) "class_order") (tCons (tVar 1) (tCons (tVar 2) tNil))))) (tVar 2) ([("method", 2)].map (·.2))) [some (V.ref a), some v2, none] L (nw rPts ((kys made).filter fun q => pLe (leOf rows) s0 q)) := fun {L o} la ld lh lk l2 => by
    refine lcF (R := rPt) (xs := kys made) (fun q => pLe (leOf rows) s0 q) gm_name (i_keysT' (fld (Evl.ev_var rfl) la T.cls_MethodTable T.no_bodies rfl) ld lk) (by omega) ?_
    intro k x vx H2 hx e2 rx
    exact ⟨Ex.refl _, rfl, Evl.et_B (lies_ hs (pts x (List.mem_of_getElem? hx)) h1 h3 ok (ev_is (fld (Evl.ev_var rfl) (e2 a _ la) T.cls_MethodTable T.no_class_order rfl) (up (R := rH K) e2 lh)) (var rfl (up (R := rPt) e2 l2)) (var rfl rx)), fun _ => (var rfl rx).flatI⟩
  rcases hd with hd | ⟨o, hd⟩
  · refine ⟨_, (PSs.nox (pss_one (ps_ret (pe_lock (pe_lc (own := [("method", 2)]) (by rfl) nd (pi_keys (k_fld K (pv 0))) (blkOk_by (by kernel_rfl)) (fun _ _ _ _ _ => (pg_name (i := 2) nd (by rfl) (by first | exact Or.inl rfl | exact Or.inr rfl))) (fun _ _ _ _ _ => (pts_one (pt_val (kcall G_lies_at_or_below hr (pa_cons (k_fld K (pv 0)) (pa_cons (pv 1) (pa_cons (pv 2) pa_nil))))))) (fun _ _ _ _ _ => (pv 2))))))), ?_⟩
    refine r_ret (lockE (S := rPt) hd fun od => ?_) hq
    have w1 := Exw.lock (od := od) hd trivial
    have ne : a ≠ db := fun z => by subst z; rw [ha] at hd; cases hd
    exact go (o := od) (by rw [upd_ne ne]; exact ha) upd_same (upW (R := rH K) w1 rh) (pmap rd fun _ _ r => ⟨r.1, upW (R := rBodyN) w1 r.2⟩) (upW (R := rPt) w1 r2)
  · refine ⟨_, (PSs.nox (pss_one (ps_ret (pe_lc (own := [("method", 2)]) (by rfl) nd (pi_keys (k_fld K (pv 0))) (blkOk_by (by kernel_rfl)) (fun _ _ _ _ _ => (pg_name (i := 2) nd (by rfl) (by first | exact Or.inl rfl | exact Or.inr rfl))) (fun _ _ _ _ _ => (pts_one (pt_val (kcall G_lies_at_or_below hr (pa_cons (k_fld K (pv 0)) (pa_cons (pv 1) (pa_cons (pv 2) pa_nil))))))) (fun _ _ _ _ _ => (pv 2)))))), ?_⟩
    exact r_ret (go ha hd rh rd r2) hq
theorem near_fil {rows : Rows Str} {ks : List (List Str)} {s : List Str} : lows (leOf rows) ((ks.filter fun q => pLe (leOf rows) s q).filter fun q => !decide (q = s)) = near (leOf rows) ks s := by
  unfold near
  rw [List.filter_filter]
abbrev sp_riv : Sp := spOf (aTb K) fun i => nw rPts (rivals (leOf i.rows) (kys i.made) i.s)
abbrev sp_jab : Sp := spOf (aTb K) fun i => nw rPts (near (leOf i.rows) (kys i.made) i.s)
theorem ok_MethodTable_rivals_at (T : Txt K mg) (G_lowest : GFn P w K mg base "lowest" 6 (sp_lowest (K := K))) (G_MethodTable_applicable_at : GMt P w K mg base "MethodTable" "applicable_at" 5 (sp_app (K := K))) : GMt P w K mg base "MethodTable" "rivals_at" 7 (sp_riv (K := K)) := by
  obtain ⟨fd, F⟩ := T.d_MethodTable_rivals_at
  have sc := (C8.fnScope_by (N := ["self", "point"]) (P := ["self", "point"]) (sc := defScope st_MethodTable_rivals_at) (by kernel_rfl))
  refine gmt T.cls_MethodTable T.m_MethodTable_rivals_at F sc (F.bindsN fun _ _ _ _ _ _ us hl => match us, hl with | [_, _], _ => rfl) (fun i vs H ⟨_, _, e, _⟩ => by rw [e]; rfl) ?_
  intro cdv A outer s H E ⟨rows, m, made, s0, hs, h1, h3, ok, pts, sorted, few⟩ vs Q hr ⟨v1, v2, e, r1, r2⟩ hq
  have nd := sc.nd
  subst e
  refine ⟨_, (PSs.nox (pss_one (ps_ret (kcall G_lowest hr (pa_cons (k_fld K (pv 0)) (pa_cons (kmeth G_MethodTable_applicable_at hr (pv 0) (pa_cons (pv 1) pa_nil)) pa_nil)))))), ?_⟩
  obtain ⟨a, dx, h, db, dn, de, e1, ha, rh, rd⟩ := id r1
  subst e1
  have hk8 : (kys made).length = made.length := List.length_map _
  have hp : ∀ p ∈ (kys made).filter fun q => pLe (leOf rows) s0 q, Pt (nms rows) m p := fun p h => pts p (List.mem_filter.mp h).1
  have hso : Sorted (nms rows) ((kys made).filter fun q => pLe (leOf rows) s0 q) := sorted.filter _
  refine r_ret (P := nw rPts (rivals (leOf rows) (kys made) s0)) ?_ hq
  unfold rivals
  rw [← srt_eq ok hp hso]
  exact call_ (P := fun (i : OrI) => nw rPts (lows (leOf i.rows) (srt i.rows i.m i.ps))) ⟨rows, m, _, hp, h1, h3, ok, Nat.le_trans (List.length_filter_le _ _) (by omega), hso.nodup⟩
    (ea2 (R := rH K) (S := rPts) (ev_is (fld (Evl.ev_var rfl) ha T.cls_MethodTable T.no_class_order rfl) rh) (EvP.of_nw (mcall_ (P := fun (i : TbI) => nw rPts ((kys i.made).filter fun q => pLe (leOf i.rows) i.s q)) (R := rMb K) ⟨rows, m, made, s0, hs, h1, h3, ok, pts, sorted, few⟩ (var rfl r1) (rMb_ob fun _ _ _ _ _ => rfl) (ea1 (var (R := rPt) rfl r2)) m1)))
theorem ok_MethodTable_just_above_at (T : Txt K mg) (G_lowest : GFn P w K mg base "lowest" 6 (sp_lowest (K := K))) (G_MethodTable_applicable_at : GMt P w K mg base "MethodTable" "applicable_at" 5 (sp_app (K := K))) : GMt P w K mg base "MethodTable" "just_above_at" 7 (sp_jab (K := K)) := by
  obtain ⟨fd, F⟩ := T.d_MethodTable_just_above_at
  have sc := (C8.fnScope_by (N := ["self", "point", "method"]) (P := ["self", "point"]) (sc := defScope st_MethodTable_just_above_at) (by kernel_rfl))
  refine gmt T.cls_MethodTable T.m_MethodTable_just_above_at F sc (F.bindsN fun _ _ _ _ _ _ us hl => match us, hl with | [_, _], _ => rfl) (fun i vs H ⟨_, _, e, _⟩ => by rw [e]; rfl) ?_
  intro cdv A outer s H E ⟨rows, m, made, s0, hs, h1, h3, ok, pts, sorted, few⟩ vs Q hr ⟨v1, v2, e, r1, r2⟩ hq
  have nd := sc.nd
  have hu64 := u64 hr
  subst e
  refine ⟨_, (PSs.nox (pss_one (ps_ret (kcall G_lowest hr (pa_cons (k_fld K (pv 0)) (pa_cons (pe_lc (own := [("method", 2)]) (by rfl) nd (k_pil K (kmeth G_MethodTable_applicable_at hr (pv 0) (pa_cons (pv 1) pa_nil))) (blkOk_by (by kernel_rfl)) (fun _ _ _ _ _ => (pg_name (i := 2) nd (by rfl) (by first | exact Or.inl rfl | exact Or.inr rfl))) (fun _ _ _ _ _ => (pts_one (pt_cmpR (k_neD K hu64) (pv 2) (pv 1) (nomark _)))) (fun _ _ _ _ _ => (pv 2))) pa_nil)))))), ?_⟩
  obtain ⟨a, dx, h, db, dn, de, e1, ha, rh, rd⟩ := id r1
  subst e1
  have hk8 : (kys made).length = made.length := List.length_map _
  have hl1 := List.length_filter_le (fun q => pLe (leOf rows) s0 q) (kys made)
  have hp : ∀ p ∈ ((kys made).filter fun q => pLe (leOf rows) s0 q).filter fun q => !decide (q = s0), Pt (nms rows) m p := fun p h => pts p (List.mem_filter.mp (List.mem_filter.mp h).1).1
  have hso : Sorted (nms rows) (((kys made).filter fun q => pLe (leOf rows) s0 q).filter fun q => !decide (q = s0)) := (sorted.filter _).filter _
  refine r_ret (P := nw rPts (near (leOf rows) (kys made) s0)) ?_ hq
  rw [← near_fil, ← srt_eq ok hp hso]
  refine call_ (P := fun (i : OrI) => nw rPts (lows (leOf i.rows) (srt i.rows i.m i.ps))) ⟨rows, m, _, hp, h1, h3, ok, Nat.le_trans (List.length_filter_le _ _) (by omega), hso.nodup⟩
    (ea2 (R := rH K) (S := rPts) (ev_is (fld (Evl.ev_var rfl) ha T.cls_MethodTable T.no_class_order rfl) rh) (EvP.of_nw (lcF (R := rPt) (R' := rPt) (xs := (kys made).filter fun q => pLe (leOf rows) s0 q) (fun q => !decide (q = s0)) gm_name (i_list (EvP.of_nw (mcall_ (P := fun (i : TbI) => nw rPts ((kys i.made).filter fun q => pLe (leOf i.rows) i.s q)) (R := rMb K) ⟨rows, m, made, s0, hs, h1, h3, ok, pts, sorted, few⟩ (var rfl r1) (rMb_ob fun _ _ _ _ _ => rfl) (ea1 (var (R := rPt) rfl r2)) m1))) (by omega) ?_)))
  intro k x vx H2 hx e2 rx
  exact ⟨Ex.refl _, rfl, Evl.et_test (neD (R := rPt) (by decide) (var rfl rx) (var rfl (up (R := rPt) e2 r2))), fun _ => (var rfl rx).flatI⟩
end
end FM

/-! ## FTab2 -/
set_option Elab.async false
set_option linter.all false
set_option maxRecDepth 100000
set_option maxHeartbeats 2000000
/-! The table: expansions that agree; the status of a point. -/
namespace FM
open PySem PySem.Spec PyProof.Rows L2
open Evl (Ex EvT Ev)
section
variable {P : Program} {w : World} {K : PySem.W.Frag} {mg : Str → Option Value} {base : Heap}
structure CeI where
  (ex : Made) (ps : List (List Str)) (hin : ∀ p ∈ ps, p ∈ ex.map (·.1)) (hl : ps.length ≤ 1000)
abbrev sp_ce : Sp := spOf (fun (i : CeI) => a2 (rMe K) rPts i.ex i.ps) fun i => is (rOpt rBody) (common (valsAt i.ex i.ps))
theorem common_none {vs : List (List (List Str))} (h : (decide (vs = []) || vs.any fun s => !decide (s = vs.headD [])) = true) : common vs = none := by
  unfold common
  cases vs with
  | nil => rfl
  | cons v vs =>
    rw [if_neg]
    intro q
    rw [isOne, List.all_eq_true] at q
    rw [Bool.or_eq_true] at h
    rcases h with h | h
    · cases of_decide_eq_true h
    · obtain ⟨s, hs, h⟩ := List.any_eq_true.mp h
      have := q s hs
      have e : (v :: vs).headD [] = v := rfl
      rw [e, this] at h
      cases h
theorem common_some {vs : List (List (List Str))} (h : (decide (vs = []) || vs.any fun s => !decide (s = vs.headD [])) = false) : vs ≠ [] ∧ isOne vs = true ∧ common vs = some (vs.headD []) := by
  rw [Bool.or_eq_false_iff] at h
  have h1 := of_decide_eq_false h.1
  cases vs with
  | nil => exact absurd rfl h1
  | cons v vs =>
    have q : isOne (v :: vs) = true := by
      rw [isOne, List.all_eq_true]
      intro s hs
      have := List.any_eq_false.mp h.2 s hs
      simpa using this
    refine ⟨h1, q, ?_⟩
    unfold common
    rw [if_pos q]
    rfl
theorem ok_MethodTable_common_expansion (T : Txt K mg) : GMt P w K mg base "MethodTable" "common_expansion" 1 (sp_ce (K := K)) := by
  obtain ⟨fd, F⟩ := T.d_MethodTable_common_expansion
  have sc := (C8.fnScope_by (N := ["self", "points", "found", "point", "steps"]) (P := ["self", "points"]) (sc := defScope st_MethodTable_common_expansion) (by kernel_rfl))
  refine gmt T.cls_MethodTable T.m_MethodTable_common_expansion F sc (F.bindsN fun _ _ _ _ _ _ us hl => match us, hl with | [_, _], _ => rfl) (fun i vs H ⟨_, _, e, _⟩ => by rw [e]; rfl) ?_
  intro cdv A outer s H E ⟨ex, ps, hin, hl⟩ vs Q hr ⟨v1, v2, e, ⟨a, dx, h, m, db, dn, de, e1, ha, rx⟩, r2⟩ hq
  have nd := sc.nd
  have hu := u1 hr
  have hu64 := u64 hr
  subst e e1
  refine ⟨_, (PSs.nox (pss_cons (ps_set (i := 2) nd (by rfl) (by first | exact Or.inl rfl | exact Or.inr rfl) (pe_lc (own := [("point", 3)]) (by rfl) nd (k_pil K (pv 1)) (blkOk_by (by kernel_rfl)) (fun _ _ _ _ _ => (pg_name (i := 3) nd (by rfl) (by first | exact Or.inl rfl | exact Or.inr rfl))) (fun _ _ _ _ _ => pts_nil) (fun _ _ _ _ _ => (pe_dget hu (k_fld K (pv 0)) (pv 3) (by intro _ _; rfl)))))
      (pss_cons (ps_if (PW.pt (pw_or (pt_cmpR (k_eqD K hu64) (pv 2) (pe_lst pa_nil) (nomark _)) (pw_or1 (pt_val (pe_callB (k_any K) (by rfl) T.any (by decide +kernel) (pa_cons (pe_lc (own := [("steps", 4)]) (by rfl) nd (k_pil K (pv 2)) (blkOk_by (by kernel_rfl)) (fun _ _ _ _ _ => (pg_name (i := 4) nd (by rfl) (by first | exact Or.inl rfl | exact Or.inr rfl))) (fun _ _ _ _ _ => pts_nil) (fun _ _ _ _ _ => (pe_cmpR (k_neD K hu64) (pv 4) (pe_ix (k_ixL K) (pv 2) pe_int (by intro _ _; rfl)) (nomark _)))) pa_nil)))))) (pss_one (ps_ret pe_non)) pss_nil)
      (pss_one (ps_ret (pe_ix (k_ixL K) (pv 2) pe_int (by intro _ _; rfl))))))), ?_⟩
  have r2 : rPts H v2 ps := r2
  refine r_set (P := nw (rLst rBody) (valsAt ex ps)) (lcM (R := rPt) (R' := rBody) (xs := ps) (fun q => (at? ex q).getD []) gm_name (i_list (var rfl r2)) (by omega) ?_) fun v3 H1 e1 ⟨N, ev, hN, rN⟩ => ?_
  · intro k q vq H5 hq5 e5 rq
    obtain ⟨u, hu', _⟩ := at?_some (hin q (List.mem_of_getElem? hq5))
    refine ⟨Ex.refl _, rfl, et_yes, EvP.flatI ?_⟩
    rw [hu']
    exact getT (R := rBody) (ev_is (fld (Evl.ev_var rfl) (e5 a _ ha) T.cls_MethodTable T.no_expanded rfl) (up (R := rDit rBody) e5 rx)) (var rfl rq) hu'
  subst ev
  have hlv : (valsAt ex ps).length = ps.length := List.length_map _
  have h0 : valsAt ex ps ≠ [] → (valsAt ex ps)[0]? = some ((valsAt ex ps).headD []) := fun h => by
    cases q : valsAt ex ps with
    | nil => exact absurd q h
    | cons v vs => rfl
  refine r_if (Evl.et_or (a := decide (valsAt ex ps = [])) (b := (valsAt ex ps).any fun s => !decide (s = (valsAt ex ps).headD [])) (Evl.et_test (eqD (R := rLst rBody) (by decide) (var rfl rN) (EvP.of_nw (lst_ (R := rBody) pa0 (by decide))))) fun hne => Evl.et_B (any_map (lcD (R := rBody) (fun _ => true) (fun s => !decide (s = (valsAt ex ps).headD [])) gm_name (i_list (var rfl rN)) (by omega) ?_))) (fun hb H2 e2 => ?_) fun hb H2 e2 => ?_
  · intro k x vx H2 hx e2 rx2
    exact ⟨Ex.refl _, rfl, et_yes, fun _ => Ev.flat (neD (R := rBody) (by decide) (var rfl rx2) (ixL (R := rBody) (j := 0) (var rfl (up (R := rLst rBody) e2 rN)) Evl.ev_c (h0 (of_decide_eq_false hne))))⟩
  · refine r_retV Evl.ev_c fun H3 e3 => hq _ _ ((e1.trans e2).trans e3) ?_
    show rOpt rBody H3 .non (common (valsAt ex ps))
    rw [common_none hb]
    rfl
  · obtain ⟨h1, _, h3⟩ := common_some hb
    refine r_ret (ixL (R := rBody) (j := 0) (var rfl (up (R := rLst rBody) e2 rN)) Evl.ev_c (h0 h1)) fun v H3 e3 z => hq _ _ ((e1.trans e2).trans e3) ?_
    show rOpt rBody H3 v (common (valsAt ex ps))
    rw [h3]
    exact z
abbrev sp_own : Sp := spOf (aTb K) fun _ => is rBool true
theorem ok_MethodTable_is_own_point (T : Txt K mg) (G_is_point_of_length : GFn P w K mg base "is_point_of_length" 3 (sp_ipl (K := K))) : GMt P w K mg base "MethodTable" "is_own_point" 4 (sp_own (K := K)) := by
  obtain ⟨fd, F⟩ := T.d_MethodTable_is_own_point
  have sc := (C8.fnScope_by (N := ["self", "value"]) (P := ["self", "value"]) (sc := defScope st_MethodTable_is_own_point) (by kernel_rfl))
  refine gmt T.cls_MethodTable T.m_MethodTable_is_own_point F sc (F.bindsN fun _ _ _ _ _ _ us hl => match us, hl with | [_, _], _ => rfl) (fun i vs H ⟨_, _, e, _⟩ => by rw [e]; rfl) ?_
  intro cdv A outer s H E ⟨rows, m, made, s0, hs, h1, h3, ok, pts, sorted, few⟩ vs Q hr ⟨v1, v2, e, ⟨a, dx, h, db, dn, de, e1, ha, rh, rd⟩, r2⟩ hq
  have nd := sc.nd
  subst e e1
  refine ⟨_, (PSs.nox (pss_one (ps_ret (kcall G_is_point_of_length hr (pa_cons (k_fld K (pv 0)) (pa_cons (pv 1) (pa_cons (k_fld K (pv 0)) pa_nil))))))), ?_⟩
  exact r_ret (P := is rBool true) (call_ (P := fun (_ : PtI) => is rBool true) ⟨rows, m, s0, hs, h1, h3⟩ (ea3 (R := rH K) (S := rPt) (T := rInt) (ev_is (fld (Evl.ev_var rfl) ha T.cls_MethodTable T.no_class_order rfl) rh) (var rfl r2) (Ev.i (fld (Evl.ev_var rfl) ha T.cls_MethodTable T.no_parameter_count rfl)))) hq
abbrev sp_hier : Sp := spOf (fun (i : TbX) => a1 (rMb K) i) fun i => is (rH K) i.1
theorem ok_MethodTable_hierarchy (T : Txt K mg) : GMt P w K mg base "MethodTable" "hierarchy" 1 (sp_hier (K := K)) := by
  obtain ⟨fd, F⟩ := T.d_MethodTable_hierarchy
  have sc := (C8.fnScope_by (N := ["self"]) (P := ["self"]) (sc := defScope st_MethodTable_hierarchy) (by kernel_rfl))
  refine gmt T.cls_MethodTable T.m_MethodTable_hierarchy F sc (F.bindsN fun _ _ _ _ _ _ us hl => match us, hl with | [_], _ => rfl) (fun i vs H ⟨_, e, _⟩ => by rw [e]; rfl) ?_
  intro cdv A outer s H E ⟨rows, m, made⟩ vs Q hr ⟨v1, e, ⟨a, dx, h, db, dn, de, e1, ha, rh, rd⟩⟩ hq
  have nd := sc.nd
  subst e e1
  refine ⟨_, (PSs.nox (pss_one (ps_ret (k_fld K (pv 0))))), ?_⟩
  exact r_ret (P := is (rH K) rows) (ev_is (fld (Evl.ev_var rfl) ha T.cls_MethodTable T.no_class_order rfl) rh) hq
abbrev sp_points : Sp := spOf (fun (i : TbX) => a1 (rMb K) i) fun i => nw rPts (kys i.2.2)
theorem ok_MethodTable_points (T : Txt K mg) : GMt P w K mg base "MethodTable" "points" 1 (sp_points (K := K)) := by
  obtain ⟨fd, F⟩ := T.d_MethodTable_points
  have sc := (C8.fnScope_by (N := ["self"]) (P := ["self"]) (sc := defScope st_MethodTable_points) (by kernel_rfl))
  refine gmt T.cls_MethodTable T.m_MethodTable_points F sc (F.bindsN fun _ _ _ _ _ _ us hl => match us, hl with | [_], _ => rfl) (fun i vs H ⟨_, e, _⟩ => by rw [e]; rfl) ?_
  intro cdv A outer s H E ⟨rows, m, made⟩ vs Q hr ⟨v1, e, ⟨a, dx, h, db, dn, de, e1, ha, rh, rd⟩⟩ hq
  have nd := sc.nd
  subst e e1
  refine ⟨_, (PSs.nox (pss_one (ps_ret (pe_callTy k_list_dT (by rfl) T.list (by decide +kernel) (pa_cons (k_fld K (pv 0)) pa_nil))))), ?_⟩
  exact r_ret (P := nw rPts (kys made)) (list_dT (R := rBodyN) (ev_is (fld (Evl.ev_var rfl) ha T.cls_MethodTable T.no_bodies rfl) rd)) hq
abbrev sp_req_calls : Sp := spOf (aTb K) fun _ => isNon
theorem ok_require_point_calls (T : Txt K mg) (G_MethodTable_is_own_point : GMt P w K mg base "MethodTable" "is_own_point" 4 (sp_own (K := K))) : GFn P w K mg base "require_point_calls" 5 (sp_req_calls (K := K)) := by
  obtain ⟨fd, F⟩ := T.d_require_point_calls
  have sc := (C8.fnScope_by (N := ["table", "point"]) (P := ["table", "point"]) (sc := defScope st_require_point_calls) (by kernel_rfl))
  refine gfn T.g_require_point_calls F sc (F.bindsN fun _ _ _ _ _ _ us hl => match us, hl with | [_, _], _ => rfl) (fun i vs H ⟨_, _, e, _⟩ => by rw [e]; rfl) ?_
  intro cdv A outer s H E i vs Q hr ⟨v1, v2, e, r1, r2⟩ hq
  have nd := sc.nd
  subst e
  refine ⟨_, (PSs.nox (pss_one (ps_if (pt_not (pt_val (kmeth G_MethodTable_is_own_point hr (pv 0) (pa_cons (pv 1) pa_nil)))) (pss_one ps_never) pss_nil))), ?_⟩
  exact r_notL (Evl.et_not (Evl.et_B (bool_ (mcall_ (P := fun (_ : TbI) => is rBool true) (R := rMb K) i (var rfl r1) (rMb_ob fun _ _ _ _ _ => rfl) (ea1 (var (R := rPt) rfl r2)) m1)))) fun H1 e1 => hq _ _ e1 rfl
theorem ok_rivals (T : Txt K mg) (G_require_point_calls : GFn P w K mg base "require_point_calls" 5 (sp_req_calls (K := K))) (G_MethodTable_rivals_at : GMt P w K mg base "MethodTable" "rivals_at" 7 (sp_riv (K := K))) : GFn P w K mg base "rivals" 8 (sp_riv (K := K)) := by
  obtain ⟨fd, F⟩ := T.d_rivals
  have sc := (C8.fnScope_by (N := ["table", "point"]) (P := ["table", "point"]) (sc := defScope st_rivals) (by kernel_rfl))
  refine gfn T.g_rivals F sc (F.bindsN fun _ _ _ _ _ _ us hl => match us, hl with | [_, _], _ => rfl) (fun i vs H ⟨_, _, e, _⟩ => by rw [e]; rfl) ?_
  intro cdv A outer s H E i vs Q hr ⟨v1, v2, e, r1, r2⟩ hq
  have nd := sc.nd
  subst e
  refine ⟨_, (PSs.nox (pss_cons (ps_expr (kcall G_require_point_calls hr (pa_cons (pv 0) (pa_cons (pv 1) pa_nil))))
      (pss_one (ps_ret (kmeth G_MethodTable_rivals_at hr (pv 0) (pa_cons (pv 1) pa_nil)))))), ?_⟩
  refine sq (r_drop (call_ (P := fun (_ : TbI) => isNon) i (ea2 (R := rMb K) (S := rPt) (var rfl r1) (var rfl r2))) fun _ H1 e1 _ => ?_)
  dsimp only
  exact r_ret (P := nw rPts (rivals (leOf i.rows) (kys i.made) i.s)) (mcall_ (P := fun (i : TbI) => nw rPts (rivals (leOf i.rows) (kys i.made) i.s)) (R := rMb K) i (var rfl (up (R := rMb K) e1 r1)) (rMb_ob fun _ _ _ _ _ => rfl) (ea1 (var (R := rPt) rfl (up (R := rPt) e1 r2))) m1) fun v H2 e2 z => hq v H2 (e1.trans e2) (Dn.dn e1 z)
abbrev aTm (K : PySem.W.Frag) (i : TbI) : List V → Hp → Prop := a2 (rM K) rPt (i.rows, i.m, i.made) i.s
abbrev sp_status : Sp := spOf (aTm K) fun i => is rStr (told (valsOf i.rows i.made i.s))
theorem ok_status (T : Txt K mg) (G_rivals : GFn P w K mg base "rivals" 8 (sp_riv (K := K))) (G_MethodTable_common_expansion : GMt P w K mg base "MethodTable" "common_expansion" 1 (sp_ce (K := K))) : GFn P w K mg base "status" 9 (sp_status (K := K)) := by
  obtain ⟨fd, F⟩ := T.d_status
  have sc := (C8.fnScope_by (N := ["table", "point", "found"]) (P := ["table", "point"]) (sc := defScope st_status) (by kernel_rfl))
  refine gfn T.g_status F sc (F.bindsN fun _ _ _ _ _ _ us hl => match us, hl with | [_, _], _ => rfl) (fun i vs H ⟨_, _, e, _⟩ => by rw [e]; rfl) ?_
  intro cdv A outer s H E i vs Q hr ⟨v1, v2, e, r1, r2⟩ hq
  have nd := sc.nd
  have hu64 := u64 hr
  subst e
  refine ⟨_, (PSs.nox (pss_cons (ps_set (i := 2) nd (by rfl) (by first | exact Or.inl rfl | exact Or.inr rfl) (kcall G_rivals hr (pa_cons (pv 0) (pa_cons (pv 1) pa_nil))))
      (pss_cons (ps_if (pt_cmpR (k_eqD K hu64) (pv 2) (pe_lst pa_nil) (nomark _)) (pss_one (ps_ret (pgS T.g_NONE))) pss_nil)
      (pss_one (ps_ret (pe_ifExp (pt_cmpR op_isN (kmeth G_MethodTable_common_expansion hr (pv 0) (pa_cons (pv 2) pa_nil)) pe_non (nomark _)) (pgS T.g_AMBIGUOUS_calls) (pgS T.g_ANSWERED))))))), ?_⟩
  have hk8 : (kys i.made).length = i.made.length := List.length_map _
  have few := i.few
  have hrl := rivals_le (rows := i.rows) (ks := kys i.made) (s := i.s)
  refine r_set (call_ (P := fun (i : TbI) => nw rPts (rivals (leOf i.rows) (kys i.made) i.s)) i (ea2 (R := rMb K) (S := rPt) (var rfl r1.1) (var rfl r2))) fun v3 H1 e1 ⟨N, ev, hN, rN⟩ => ?_
  subst ev
  have hv : (valsOf i.rows i.made i.s = []) ↔ (rivals (leOf i.rows) (kys i.made) i.s = []) := by
    unfold valsOf valsAt
    rw [List.map_eq_nil_iff]
  refine r_if (Evl.et_test (eqD (R := rPts) (by decide) (var rfl rN) (EvP.of_nw (lst_ (R := rPt) pa0 (by decide))))) (fun hb H2 e2 => ?_) fun hb H2 e2 => ?_
  · have hb := of_decide_eq_true hb
    dsimp only
    refine r_retV Evl.ev_c fun H3 e3 => hq _ _ ((e1.trans e2).trans e3) ?_
    have : told (valsOf i.rows i.made i.s) = "none" := by unfold told; rw [if_pos (hv.mpr hb)]
    show rStr H3 _ (told (valsOf i.rows i.made i.s))
    rw [this]
    exact ⟨rfl, by unfold sOk; decide +kernel⟩
  · have hb := of_decide_eq_false hb
    unfold tNext
    dsimp only
    have hb2 : valsOf i.rows i.made i.s ≠ [] := fun z => hb (hv.mp z)
    refine r_ret (P := is rStr (told (valsOf i.rows i.made i.s))) ?_ fun v H3 e3 z => hq v H3 ((e1.trans e2).trans e3) z
    have call : EvP (tMeth (He.ga K "MethodTable") "common_expansion" (sp_ce (K := K)) [] E0 (tVar 0) (tCons (tVar 2) tNil)) [some v1, some v2, some (V.ref N)] H2 (is (rOpt rBody) (common (valsOf i.rows i.made i.s))) :=
      mcall_ (P := fun (i : CeI) => is (rOpt rBody) (common (valsAt i.ex i.ps))) (R := rMe K) ⟨grown i.rows i.made, rivals (leOf i.rows) (kys i.made) i.s, fun p hp => by rw [grown_keys]; exact rivals_in hp, by omega⟩ (var rfl (up (R := rMe K) (e1.trans e2) r1.2)) (rMe_ob fun _ _ _ _ _ => rfl) (ea1 (var (R := rPts) rfl (up (R := rPts) e2 rN))) m1
    refine if_ (b := !isOne (valsOf i.rows i.made i.s)) ?_ (fun h1 => ?_) fun h1 => ?_
    · intro H3 e3 Q3 q3
      refine call H3 e3 _ fun v H4 e4 z => ?_
      refine ⟨rfl, _, rfl, ?_⟩
      have z : rOpt rBody H4 v (common (valsOf i.rows i.made i.s)) := z
      have eb : decide (v = .non) = !isOne (valsOf i.rows i.made i.s) := by
        unfold common at z
        cases q : isOne (valsOf i.rows i.made i.s) with
        | false =>
          rw [q, if_neg (by decide)] at z
          exact decide_eq_true z
        | true =>
          rw [q, if_pos rfl] at z
          cases q2 : valsOf i.rows i.made i.s with
          | nil => exact absurd q2 hb2
          | cons y ys =>
            rw [q2] at z
            obtain ⟨b, us, ev, _⟩ := z
            rw [ev]
            rfl
      rw [eb]
      exact q3 H4 e4
    · have : told (valsOf i.rows i.made i.s) = "ambiguous" := by
        unfold told
        rw [if_neg hb2, if_neg (by rw [Bool.not_eq_true'] at h1; rw [h1]; decide)]
      rw [this]
      exact const (by unfold sOk; decide +kernel)
    · have : told (valsOf i.rows i.made i.s) = "answered" := by
        unfold told
        rw [if_neg hb2, if_pos (by simpa using h1)]
      rw [this]
      exact const (by unfold sOk; decide +kernel)
end
end FM

/-! ## FStat -/
set_option Elab.async false
set_option linter.all false
set_option maxRecDepth 100000
set_option maxHeartbeats 2000000
/-! A staticmethod through an instance; the methods of a table are checked. -/
namespace FS
open PySem PySem.Spec PyProof.Rows L2
/-- C.m is a staticmethod: its record at p, its def at g -/
structure Sta (K : PySem.W.Frag) (C : Addr) (m : Str) (p g : Addr) : Prop where
  ic : PySem.W.isClsIn K C = true
  at_ : PySem.W.findIn K (.ref C) m = some (some (.ref p))
  ty : PySem.W.typeIn K (.ref p) = some (.type "staticmethod")
  get : PySem.W.specialIn K (.ref p) "__get__" = some (some (.builtin "staticmethod.__get__"))
  tk : PySem.W.takesIn K (.ref p) = some false
  cp : PySem.W.copiedNames.contains m = false
  rc : ∃ rest, PySem.W.recIn K p "staticmethod" = some (.ref g :: rest)
  kp : PySem.W.keepIn K (.ref g) = true
theorem getmeth {X : Cx} {pins : List (Addr × Obj)} {σ : L2.St} {H : Hp} {s : Shared} {a C dx p g : Addr} {fs : List (Str × V)} {m : Str} {A : Around} {E : Value → Shared → Prop} {pl : Sem Bool} {Q : Value × List Value → Shared → Prop} (I : Inv X pins σ H s) (e : H a = some (.ins C dx fs)) (c : Cls X.K C) (k : Sta X.K C m p g) (l : fs.lookup m = none)
    (h : ∀ s', Inv X pins σ H s' → Q (.ref g, []) s') : wpAny (model X.prog X.w) A (getMethod (.ref a) m pl) Q E s := by
  obtain ⟨mA, O, rr, _, _, _⟩ := ins_get I.hok e
  have hn : mA m = none := RelO.none_of (by rw [← l]; exact rr m)
  obtain ⟨od, J, hl⟩ := O.look
  obtain ⟨rest, hp⟩ := k.rc
  obtain ⟨g1, g2⟩ := PySem.W.plainGet_of (c.get m)
  refine PySem.W.method_usual (r := some (.ref p)) I.kIn J g1 g2 k.at_ ?_ ?_
  · show ((PySem.W.typeIn X.K (.ref p)).any fun t => t != .type "function" && t != .type "method_descriptor" && t != .type "wrapper_descriptor") = true
    rw [k.ty]
    decide +kernel
  · refine PySem.W.get_bind I.kIn J g1 (ClX.find_cm k.ic k.at_ k.get k.tk k.cp (by rw [hl m, hn])) g2 ?_
    exact wpAny_call (PySem.W.sm_get (s := { s with toks := s.toks + 1 }) I.kIn hp (PySem.W.handed_on rfl (h _ (I.tok _))))
/-- o.m(..) where m is a staticmethod of o's class -/
def tStat (C : Addr) (m : Str) (sp : Sp) (ta : TE) (t : TA) : TE := fun σ H Q => ta σ H fun x H1 => ∃ a dx fs, x = .ref a ∧ H1 a = some (.ins C dx fs) ∧ fs.lookup m = none ∧ t σ H1 fun ws H2 => sp ws H2 Q E0
structure GSt (P : Program) (w : World) (K : PySem.W.Frag) (mg : Str → Option Value) (base : Heap) (C m : Str) (k : Nat) (sp : Sp) : Prop where
  ex : ∃ p g fd ps, Cls K (He.ga K C) ∧ Sta K (He.ga K C) m p g ∧ FnOk P w K mg base CX0 k g fd ps sp ∧ Binds K fd ps []
theorem kstat {X : Cx} {P : Program} {w : World} {K : PySem.W.Frag} {mg : Str → Option Value} {base : Heap} {C m : Str} {k j : Nat} {sp : Sp} {e o : Expr} {es : List Expr} {ta : TE} {t : TA} {pos apos : Pos} {pl : Sem Bool} (G : GSt P w K mg base C m k sp) (hr : Room j X.A) (ho : PE X o ta) (ha : PA X (e :: es) t) (cn : FM.Cn X P w K mg base := by exact ⟨rfl, rfl, rfl, rfl, rfl⟩) (hkj : k ≤ j := by decide)
    (hst : starEach (e :: es) X.env = (false, eval e X.env) :: starEach es X.env := by rfl) (hpl : (backTo pos (starEach es X.env)).any (·.1) = false := by rfl)
    (ht : eval (.Call (.Attribute o m apos) (e :: es) [] pos) X.env = (do
      let ov ← eval o X.env
      standAt apos.atName
      let (f, first) ← holding [ov] (getMethod ov m pl)
      callWith pos f first (backTo pos (starEach (e :: es) X.env)) (backToKw pos (keywordEach [] X.env))) := by rfl) :
    PE X (.Call (.Attribute o m apos) (e :: es) [] pos) (tStat (He.ga K C) m sp ta t) := by
  obtain ⟨rfl, rfl, rfl, rfl, rfl⟩ := cn
  obtain ⟨p, g, fd, ps, c, k2, F, hb⟩ := G.ex
  refine ⟨fun pins s σ H Q I h => PySem.W.methodCall_KW (pl := pl) (thn (ho.run pins s σ H _ I h) fun u s1 ⟨x, H1, I1, rx, a, dx, fs, ex, ea, l, q⟩ => ?_) ht⟩
  subst ex
  obtain rfl : u = Value.ref a := rx
  refine getmeth I1 ea c k2 l fun s2 I2 => ?_
  refine PySem.W.callWith_K (first := []) (h₀ := X.base) I2.ok.mod.kin k2.kp (thn (ha.run pos pins s2 σ H1 _ I2 q) fun us s3 ⟨vs, H2, I3, r, q2⟩ => ⟨I3.kIn, ?_⟩) hst hpl
  exact run_fn F (hr.mono hkj) hb .nil pass0 I3 r (by rw [List.append_nil]; exact q2)
end FS
namespace FM
open PySem PySem.Spec PyProof.Rows L2
open Evl (Ex EvT Ev)
section
variable {P : Program} {w : World} {K : PySem.W.Frag} {mg : Str → Option Value} {base : Heap}
theorem Txt.sta (T : Txt K mg) : FS.Sta K (He.ga K "MethodTable") "is_count" (smP K) (smF K) ∧ okA K (smF K) "MethodTable.is_count" = true := by
  have h := T.says.m
  unfold more at h
  obtain ⟨_, h⟩ := Bool.and_eq_true_iff.mp h
  obtain ⟨_, h⟩ := Bool.and_eq_true_iff.mp h
  obtain ⟨h, _⟩ := Bool.and_eq_true_iff.mp h
  obtain ⟨h1, h⟩ := Bool.and_eq_true_iff.mp h
  obtain ⟨h2, h⟩ := Bool.and_eq_true_iff.mp h
  obtain ⟨h3, h⟩ := Bool.and_eq_true_iff.mp h
  obtain ⟨h4, h⟩ := Bool.and_eq_true_iff.mp h
  obtain ⟨h5, h⟩ := Bool.and_eq_true_iff.mp h
  obtain ⟨h6, h⟩ := Bool.and_eq_true_iff.mp h
  obtain ⟨h7, h8⟩ := Bool.and_eq_true_iff.mp h
  refine ⟨⟨h1, He.eqO_ok h2, ?_, ?_, ?_, by decide, ?_, h7⟩, h8⟩
  · unfold eqV' at h3
    split at h3
    · rename_i u e
      rw [e, of_decide_eq_true h3]
    · cases h3
  · unfold eqG at h4
    split at h4
    · rename_i u e
      rw [e, of_decide_eq_true h4]
    · cases h4
  · unfold eqB at h5
    split at h5
    · rename_i e
      exact e
    · cases h5
  · unfold recB at h6
    unfold smF
    split at h6
    · rename_i f r e
      exact ⟨r, by rw [e]⟩
    · cases h6
theorem Txt.d_MethodTable_is_count (T : Txt K mg) : ∃ fd, FunD K "is_count" "MethodTable.is_count" (defArgs st_MethodTable_is_count) (defBody st_MethodTable_is_count) (defScope st_MethodTable_is_count) [] [] (smF K) fd := by
  have e := T.says.s
  obtain ⟨hs, c2⟩ := T.sta
  unfold fnA at e
  unfold okA at c2
  cases q : K.lookup (smF K) with
  | none => rw [q] at c2; cases c2
  | some o =>
    obtain ⟨oc, od, dt, osl⟩ := o
    rw [q] at c2 e
    cases dt with
    | func fd =>
      obtain ⟨n1, n2, n3, n4, n5, n6, n7, n8, n9, n10, n11, n12, n13, n14, n15⟩ := fd
      have e2 : (some (n1, n2, n3, n4, n5, n6, n7, n15) : He.FnW) = some (("is_count" : Str), ("MethodTable.is_count" : Str), defArgs st_MethodTable_is_count, FuncBody.stmts (defBody st_MethodTable_is_count), defScope st_MethodTable_is_count, mainGlobals, [], builtinsNs) := e
      simp only [Option.some.injEq, Prod.mk.injEq] at e2
      obtain ⟨h1, h2, h3, h4, h5, h6, h7, h8⟩ := e2
      subst h1 h2 h3 h4 h5 h6 h7 h8
      obtain ⟨k1, k3⟩ := Bool.and_eq_true_iff.mp (show (PySem.W.codeIn K n13 "MethodTable.is_count" && He.dflB K n8 []) = true from c2)
      exact ⟨_, ⟨oc, od, n8, n9, n10, n11, n12, n13, n14, osl, rfl, q, k1, He.dflB_ok k3, .inl rfl⟩, hs.kp⟩
    | _ => cases c2
theorem ok_MethodTable_is_count (T : Txt K mg) : FS.GSt P w K mg base "MethodTable" "is_count" 1 sp_count := by
  obtain ⟨fd, F⟩ := T.d_MethodTable_is_count
  have sc := (C8.fnScope_by (N := ["value"]) (P := ["value"]) (sc := defScope st_MethodTable_is_count) (by kernel_rfl))
  refine ⟨smP K, smF K, fd, _, T.cls_MethodTable, T.sta.1, bod_ok (A := fun (i : CntI) => a1 rInt (i.1 : Int)) (Pp := fun _ => is rBool true) F sc (fun i vs H ⟨_, e, _⟩ => by rw [e]; rfl) ?_, (F.bindsN fun _ _ _ _ _ _ us hl => match us, hl with | [_], _ => rfl)⟩
  intro cdv A outer s H E ⟨m, h1, h3⟩ vs Q hr ⟨v1, e, r1⟩ hq
  have nd := sc.nd
  subst e
  refine ⟨_, (PSs.nox (pss_one (ps_ret (pe_and (pe_callB (k_isi K) (by rfl) T.isinstance (by decide +kernel) (pa_cons (pv 0) (pa_cons (pe_bltn (v := .ty "int") (by rfl) T.int (by decide +kernel) rfl) pa_nil))) (pe_and (pe_not (pe_callB (k_isi K) (by rfl) T.isinstance (by decide +kernel) (pa_cons (pv 0) (pa_cons (pe_bltn (v := .ty "bool") (by rfl) T.bool (by decide +kernel) rfl) pa_nil)))) (pe_one (pe_chain op_le op_le pe_int (pv 0) (pgI T.g_MAX_PARAMETERS)))))))), ?_⟩
  refine r_ret (P := is rBool true) (Ev.b (b := true) ?_) hq
  have e : (true && ((!false) && (decide ((1 : Int) ≤ (m : Int)) && decide ((m : Int) ≤ 3)))) = true := by
    have a : decide ((1 : Int) ≤ (m : Int)) = true := decide_eq_true (by omega)
    have b : decide ((m : Int) ≤ 3) = true := decide_eq_true (by omega)
    rw [a, b]
    rfl
  refine Evl.ev_is (Evl.ev_andV (isi_i (int_ (var rfl r1))) fun _ => Evl.ev_andV (Evl.ev_notV (isi_ib (int_ (var rfl r1)))) fun _ => chainI (g := fun i j => decide (i ≤ j)) (g' := fun i j => decide (i ≤ j)) Evl.ev_c (int_ (var rfl r1)) Evl.ev_c) (congrArg V.bl e)
abbrev rMadeN : Rdr Made := rDitU rBodyN
theorem rMadeN.wk {H : Hp} {v : V} {m : Made} (h : rMadeN H v m) : rMade H v m := let ⟨a, kvs, e, k, r⟩ := h; ⟨a, kvs, e, k, pmap r fun _ _ h => ⟨h.1, rTupN.r h.2⟩⟩
theorem isi_dT {σ : L2.St} {H : Hp} {te : TE} {β : Type} {R : Rdr β} {m : List (List Str × β)} (h : EvP te σ H (is (rDitU R) m)) : Ev (tCB (rIsi K) (tCons te (tCons (tC (.ty "dict")) tNil))) σ H (.bl true) := fun H1 e Q q =>
  h H1 e _ fun v H2 e2 ⟨a, vs, ev, hv, r⟩ => ⟨.ref a, .ty "dict", .type "dict", .type "dict", true, by rw [ev], .ty _, .base (.dT hv), rfl, q H2 e2⟩
structure RmI where
  (rows : Rows Str) (m : Nat) (made : Made) (h1 : 1 ≤ m) (h3 : m ≤ 3) (pts : ∀ p ∈ kys made, Pt (nms rows) m p) (bods : ∀ z ∈ made, BodOk z.2)
abbrev sp_req_methods : Sp := spOf (fun (i : RmI) => a3 (rH K) rInt rMadeN i.rows (i.m : Int) i.made) fun _ => isNon
theorem ok_require_methods (T : Txt K mg) (G_is_point_of_length : GFn P w K mg base "is_point_of_length" 3 (sp_ipl (K := K))) (G_is_body : GFn P w K mg base "is_body" 3 sp_is_body) : GFn P w K mg base "require_methods" 4 (sp_req_methods (K := K)) := by
  obtain ⟨fd, F⟩ := T.d_require_methods
  have sc := (C8.fnScope_by (N := ["hierarchy", "count", "methods", "point", "body"]) (P := ["hierarchy", "count", "methods"]) (sc := defScope st_require_methods) (by kernel_rfl))
  refine gfn T.g_require_methods F sc (F.bindsN fun _ _ _ _ _ _ us hl => match us, hl with | [_, _, _], _ => rfl) (fun i vs H ⟨_, _, _, e, _⟩ => by rw [e]; rfl) ?_
  intro cdv A outer s H E ⟨rows, m, made, h1, h3, pts, bods⟩ vs Q hr ⟨v1, v2, v3, e, r1, r2, r3⟩ hq
  have nd := sc.nd
  subst e
  refine ⟨_, (PSs.nox (pss_cons (ps_if (pt_not (pt_val (pe_callB (k_isi K) (by rfl) T.isinstance (by decide +kernel) (pa_cons (pv 2) (pa_cons (pe_bltn (v := .ty "dict") (by rfl) T.dict (by decide +kernel) rfl) pa_nil))))) (pss_one ps_never) pss_nil)
      (pss_one (ps_lock (ps_for PassesOwn.never (by rfl) (FT.pi_itemsT (pv 2)) (k_gtup K (n := 2) (pgs_cons (pg_name (i := 3) nd (by rfl) (by first | exact Or.inl rfl | exact Or.inr rfl)) (pgs_cons (pg_name (i := 4) nd (by rfl) (by first | exact Or.inl rfl | exact Or.inr rfl)) pgs_nil))) (pss_cons (ps_if (pt_not (pt_val (kcall G_is_point_of_length hr (pa_cons (pv 0) (pa_cons (pv 3) (pa_cons (pv 1) pa_nil)))))) (pss_one ps_never) pss_nil)
      (pss_one (ps_if (pt_not (pt_val (kcall G_is_body hr (pa_cons (pv 4) (pa_cons (pv 1) pa_nil))))) (pss_one ps_never) pss_nil)))))))), ?_⟩
  refine r_not (Evl.et_not (Evl.et_B (isi_dT (R := rBodyN) (var rfl r3)))) fun H1 e1 => ?_
  obtain ⟨d, kvs, e3, hd, rk⟩ := up (R := rMadeN) e1 r3
  subst e3
  have r1 := up (R := rH K) e1 r1
  refine ⟨d, .dT kvs, hd, trivial, fun od => ?_⟩
  have w1 := Exw.lock (od := od) hd trivial
  have rl : KvT rBodyN (upd H1 d (.frz od (.dT kvs))) kvs made := pmap rk fun _ _ h => ⟨h.1, upW w1 h.2⟩
  have hdl : upd H1 d (.frz od (.dT kvs)) d = some (.frz od (.dT kvs)) := upd_same
  have q1 : rH K (upd H1 d (.frz od (.dT kvs))) v1 rows := upW w1 r1
  have back : ∀ H', Ex (upd H1 d (.frz od (.dT kvs))) H' → Ex H1 (upd H' d (.dT kvs)) := fun H' e => ex_unlock (od := od) hd e
  generalize upd H1 d (.frz od (.dT kvs)) = Hl at *
  refine r_for (H := Hl) (j_itemsT (R := rBodyN) (Evl.ev_var rfl) hdl rl) (Ex.refl _)
    (fun j σ' H' => ∃ a b, σ' = [some v1, some v2, some (V.ref d), a, b]) (fun H2 e2 => ⟨_, _, rfl⟩) (fun Hn en hno j σ' H' hj hI eh v5 H3 e3 hy => ?_) fun σ' H' hI eh => ?_
  · obtain ⟨a, b, rfl⟩ := hI
    obtain ⟨⟨p, bd⟩, hz, c, y1, y2, ev, hc, rp, rb⟩ := hy
    subst ev
    have hmem : (p, bd) ∈ made := List.mem_of_getElem? hz
    refine ⟨c, _, rfl, .inl (.inl hc), rfl, y1, _, rfl, y2, _, rfl, rfl, ?_⟩
    have e03 := (en.trans eh).trans e3
    refine r_not (Evl.et_not (Evl.et_B (bool_ (call_ (P := fun (_ : PtI) => is rBool true) ⟨rows, m, p, pts p (List.mem_map.mpr ⟨_, hmem, rfl⟩), h1, h3⟩ (ea3 (R := rH K) (S := rPt) (T := rInt) (var rfl (up (R := rH K) e03 q1)) (var rfl rp) (var rfl r2)))))) fun H4 e4 => ?_
    exact r_notL (Evl.et_not (Evl.et_B (bool_ (call_ (P := fun (_ : {s : List (List Str) × Int // BodOk s.1}) => is rBool true) ⟨(bd, (m : Int)), bods _ hmem⟩ (ea2 (R := rBodyN) (S := rInt) (var rfl (up (R := rBodyN) e4 rb)) (var rfl r2)))))) fun H5 e5 => ⟨⟨_, _, rfl⟩, ((eh.trans e3).trans e4).trans e5⟩
  · exact ⟨eh d _ hdl, hq _ _ (e1.trans (back _ eh)) rfl⟩
end
end FM

/-! ## FExp -/
set_option Elab.async false
set_option linter.all false
set_option maxRecDepth 100000
set_option maxHeartbeats 2000000
/-! A table under way: each method's expansion. -/
namespace FM
open PySem PySem.Spec PyProof.Rows L2
open Evl (Ex EvT Ev)
/-- the first k expansions -/
abbrev gk (rows : Rows Str) (made : Made) (k : Nat) : Made := grow (near (leOf rows) (kys made)) nxt [] (made.take k)
theorem gk_keys (rows : Rows Str) (made : Made) (k : Nat) : (gk rows made k).map (·.1) = (kys made).take k := by
  unfold gk
  rw [grow_keys]
  simp [kys, List.map_take]
theorem gk_succ {rows : Rows Str} {made : Made} {k : Nat} {z : List Str × List (List Str)} (h : made[k]? = some z) : gk rows made (k + 1) = gk rows made k ++ [(z.1, subst nxt z.2 ((valsAt (gk rows made k) (near (leOf rows) (kys made) z.1)).headD []))] := by
  unfold gk
  rw [List.take_add_one, h, grow_append]
  rfl
theorem gk_all (rows : Rows Str) (made : Made) : gk rows made made.length = grown rows made := by
  unfold gk
  rw [List.take_length]
theorem gk_short {rows : Rows Str} {made : Made} (s : Small made) (k : Nat) : ∀ z ∈ gk rows made k, z.2.length ≤ 24 := fun z hz => by
  have := grow_len (nr := near (leOf rows) (kys made)) (made := made.take k) (acc := []) (B := 0) (fun z hz => s.short z (List.mem_of_mem_take hz)) (fun z hz => by cases hz) z hz
  have h1 := List.length_take_le' k made
  have h2 := s.few
  omega
/-- a table under way: the bodies held while they are walked, the first k expansions there -/
def Exs (K : PySem.W.Frag) (rows : Rows Str) (m : Nat) (made : Made) (k : Nat) (a dn de : Addr) (H : Hp) : Prop :=
  ∃ dx h db od kvs nn ee, H a = some (.ins (He.ga K "MethodTable") dx (fsM h m db dn de)) ∧ rH K H h rows ∧ (H db = some (.frz od (.dT kvs)) ∧ KvT rBodyN H kvs made) ∧ (H dn = some (.dT nn) ∧ KvT rAny H nn (((kys made).take k).map fun p => (p, ()))) ∧ H de = some (.dT ee) ∧ KvT rBody H ee (gk rows made k)
theorem Exs.up {K : PySem.W.Frag} {rows : Rows Str} {m : Nat} {made : Made} {k : Nat} {a dn de : Addr} {H H' : Hp} (e : Ex H H') (x : Exs K rows m made k a dn de H) : Exs K rows m made k a dn de H' :=
  let ⟨dx, h, db, od, kvs, nn, ee, h1, h2, ⟨h3, h4⟩, ⟨h5, h6⟩, h7, h8⟩ := x
  ⟨dx, h, db, od, kvs, nn, ee, e a _ h1, FM.up (R := rH K) e h2, ⟨e db _ h3, pmap h4 fun _ _ r => ⟨r.1, FM.up (R := rBodyN) e r.2⟩⟩, ⟨e dn _ h5, pmap h6 fun _ _ r => ⟨r.1, trivial⟩⟩, e de _ h7, pmap h8 fun _ _ r => ⟨r.1, FM.up (R := rBody) e r.2⟩⟩
theorem Exs.b {K : PySem.W.Frag} {rows : Rows Str} {m : Nat} {made : Made} {k : Nat} {a dn de : Addr} {H : Hp} (x : Exs K rows m made k a dn de H) : rMb K H (.ref a) (rows, m, made) :=
  let ⟨dx, h, db, od, kvs, _, _, h1, h2, ⟨h3, h4⟩, _, _, _⟩ := x
  ⟨a, dx, h, db, dn, de, rfl, h1, h2, db, kvs, rfl, .inr ⟨od, h3⟩, h4⟩
theorem Exs.e {K : PySem.W.Frag} {rows : Rows Str} {m : Nat} {made : Made} {k : Nat} {a dn de : Addr} {H : Hp} (x : Exs K rows m made k a dn de H) : rMe K H (.ref a) (gk rows made k) :=
  let ⟨dx, h, db, _, _, _, ee, h1, _, _, _, h7, h8⟩ := x
  ⟨a, dx, h, m, db, dn, de, rfl, h1, de, ee, rfl, .inl h7, h8⟩
/-- a table of methods to be made -/
structure MtI where
  (rows : Rows Str) (m : Nat) (made : Made) (ok : Rok rows) (h1 : 1 ≤ m) (h3 : m ≤ 3) (mok : Mok rows m made) (bods : ∀ z ∈ made, BodOk z.2)
/-- the two dicts grown by one -/
def Grew (rows : Rows Str) (made : Made) (k : Nat) (dn de : Addr) (H' : Hp) : Prop := ∃ nn ee, (H' dn = some (.dT nn) ∧ KvT rAny H' nn (((kys made).take k).map fun p => (p, ()))) ∧ H' de = some (.dT ee) ∧ KvT rBody H' ee (gk rows made k)
def sp_expand (K : PySem.W.Frag) : Sp := fun vs H Q _ => ∃ (i : MtI) (k : Nat) (z : List Str × List (List Str)) (a dn de : Addr) (p : V) (H0 : Hp), i.made[k]? = some z ∧ vs = [.ref a, p] ∧ Exs K i.rows i.m i.made k a dn de H ∧ rPt H p z.1 ∧ dn ≠ de ∧ Ex H0 H ∧ H0 dn = none ∧ H0 de = none ∧
  ∀ H', Ex H0 H' → Grew i.rows i.made (k + 1) dn de H' → Q .non H'
section
variable {P : Program} {w : World} {K : PySem.W.Frag} {mg : Str → Option Value} {base : Heap}
theorem ok_MethodTable_expand (T : Txt K mg) (G_MethodTable_common_expansion : GMt P w K mg base "MethodTable" "common_expansion" 1 (sp_ce (K := K))) (G_MethodTable_just_above_at : GMt P w K mg base "MethodTable" "just_above_at" 7 (sp_jab (K := K)))
    (G_has_next_step : GFn P w K mg base "has_next_step" 1 sp_has_next) (G_replace_next : GFn P w K mg base "replace_next" 2 sp_repl) : GMt P w K mg base "MethodTable" "expand" 8 (sp_expand K) := by
  obtain ⟨fd, F⟩ := T.d_MethodTable_expand
  have sc := (C8.fnScope_by (N := ["self", "point", "steps", "body"]) (P := ["self", "point"]) (sc := defScope st_MethodTable_expand) (by kernel_rfl))
  refine ⟨_, fd, _, T.cls_MethodTable, T.m_MethodTable_expand, F.ok sc (fun vs H Q E ⟨_, _, _, _, _, _, _, _, _, e, _⟩ => by rw [e]; rfl) ?_, (F.bindsN fun _ _ _ _ _ _ us hl => match us, hl with | [_, _], _ => rfl)⟩
  intro cdv A outer s H vs Q E hr ⟨⟨rows, m, made, ok, h1, h3, mok, bods⟩, k, ⟨p, bd⟩, a, dn, de, v2, H0, hk, e, hx, r2, hne, e0, hdn, hde, hq⟩
  have hr : Room 7 (cxOf CX0 P w K mg base ["self", "point", "steps", "body"] "MethodTable.expand" (defScope st_MethodTable_expand) (He.ma K (He.ga K "MethodTable") "expand") cdv A outer s H E).A := hr
  have nd := sc.nd
  have hu := u1 hr
  subst e
  refine ⟨_, (PSs.nox (pss_cons (ps_set (i := 2) nd (by rfl) (by first | exact Or.inl rfl | exact Or.inr rfl) (kmeth G_MethodTable_common_expansion hr (pv 0) (pa_cons (kmeth G_MethodTable_just_above_at hr (pv 0) (pa_cons (pv 1) pa_nil)) pa_nil)))
      (pss_cons (ps_set (i := 3) nd (by rfl) (by first | exact Or.inl rfl | exact Or.inr rfl) (pe_dget hu (k_fld K (pv 0)) (pv 1) (by intro _ _; rfl)))
      (pss_cons (ps_if (PW.pt (pw_and (pt_cmpR op_isN (pv 2) pe_non (nomark _)) (pw_and1 (pt_val (kcall G_has_next_step hr (pa_cons (pv 3) pa_nil)))))) (pss_one ps_never) pss_nil)
      (pss_cons (ps_dput hu (k_fld K (pv 0)) (pv 1) (pv 2) (by rfl))
      (pss_one (ps_dput hu (k_fld K (pv 0)) (pv 1) (pe_ifExp (pt_cmpR op_isN (pv 2) pe_non (nomark _)) (pv 3) (kcall G_replace_next hr (pa_cons (pv 3) (pa_cons (pv 2) pa_nil)))) (by rfl)))))))), ?_⟩
  have hk : made[k]? = some (p, bd) := hk
  have hx : Exs K rows m made k a dn de H := hx
  have r2 : rPt H v2 p := r2
  have hq : ∀ H', Ex H0 H' → Grew rows made (k + 1) dn de H' → Q .non H' := hq
  have hmem : (p, bd) ∈ made := List.mem_of_getElem? hk
  have hkm : p ∈ kys made := List.mem_map.mpr ⟨_, hmem, rfl⟩
  have hbo := bods _ hmem
  have split : made = made.take k ++ (p, bd) :: made.drop (k + 1) := by
    have h2 := (List.getElem?_eq_some_iff.mp hk).2
    rw [← h2, List.getElem_cons_drop, List.take_append_drop]
  have ksplit : kys made = (kys made).take k ++ p :: kys (made.drop (k + 1)) := by
    have e : made.map (·.1) = (made.take k ++ (p, bd) :: made.drop (k + 1)).map (·.1) := congrArg _ split
    rw [List.map_append, List.map_cons, List.map_take] at e
    exact e
  have hps : ∀ q ∈ (kys made).take k ++ p :: kys (made.drop (k + 1)), Pt (nms rows) m q := fun q hq => mok.pts q (by rw [ksplit]; exact hq)
  have hso : Sorted (nms rows) ((kys made).take k ++ p :: kys (made.drop (k + 1))) := by rw [← ksplit]; exact mok.sorted
  have ahead : ∀ q ∈ near (leOf rows) (kys made) p, q ∈ (kys made).take k := fun q hq => near_ahead ok.good.grid hps hso q (by rw [← ksplit]; exact hq)
  have knew : p ∉ (kys made).take k := fun z => by
    have nd2 := hso.nodup
    rw [List.nodup_append] at nd2
    exact nd2.2.2 p z p (by simp) rfl
  have few := mok.small.few
  have hk8 : (kys made).length = made.length := List.length_map _
  have hnl : (near (leOf rows) (kys made) p).length ≤ 8 := by
    have h1 := List.length_filter_le (fun one => !decide (one = p) && pLe (leOf rows) p one) (kys made)
    have h2 : (near (leOf rows) (kys made) p).length ≤ ((kys made).filter fun one => !decide (one = p) && pLe (leOf rows) p one).length := List.length_filter_le _ _
    omega
  have comp : nxt ∈ bd → isOne (valsAt (gk rows made k) (near (leOf rows) (kys made) p)) = true := by
    have c := mok.comp
    conv at c => arg 4; rw [split]
    rw [comp_append] at c
    exact c.2.1
  let vals := valsAt (gk rows made k) (near (leOf rows) (kys made) p)
  have vshort : ∀ v ∈ vals, v.length ≤ 24 := vals_len (gk_short mok.small k) _
  refine r_set (mcall_ (P := fun (i : CeI) => is (rOpt rBody) (common (valsAt i.ex i.ps))) (R := rMe K) ⟨gk rows made k, near (leOf rows) (kys made) p, fun q hq => by rw [gk_keys]; exact ahead q hq, by omega⟩ (var rfl hx.e) (rMe_ob fun _ _ _ _ _ => rfl) (ea1 (R := rPts) (EvP.of_nw (mcall_ (P := fun (i : TbI) => nw rPts (near (leOf i.rows) (kys i.made) i.s)) (R := rMb K) ⟨rows, m, made, p, mok.pts p hkm, h1, h3, ok, mok.pts, mok.sorted, few⟩ (var rfl hx.b) (rMb_ob fun _ _ _ _ _ => rfl) (ea1 (var (R := rPt) rfl r2)) m1))) m1) fun v3 H1 e1 r3 => ?_
  have r3 : rOpt rBody H1 v3 (common vals) := r3
  have hx1 := hx.up e1
  obtain ⟨dx, h, db, od, kvs, nn, ee, i1, i2, ⟨i3, i4⟩, ⟨i5, i6⟩, i7, i8⟩ := id hx1
  refine r_set (getT (R := rBodyN) (ev_is (fld (Evl.ev_var rfl) i1 T.cls_MethodTable T.no_bodies rfl) ⟨db, kvs, rfl, .inr ⟨od, i3⟩, i4⟩) (var rfl (up (R := rPt) e1 r2)) (at?_mem mok.sorted.nodup hmem)) fun v4 H2 e2 r4 => ?_
  have r4 : rBodyN H2 v4 bd := r4
  have r32 := up (R := rOpt rBody) e2 r3
  have eB : decide (v3 = .non) = !(common vals).isSome := by
    cases q : common vals with
    | none => rw [q] at r3; exact decide_eq_true r3
    | some st =>
      rw [q] at r3
      obtain ⟨b, us, ev, _⟩ := r3
      rw [ev]
      rfl
  have hnn : isOne vals = false → nxt ∉ bd := fun q k => by rw [comp k] at q; cases q
  have cS : (common vals).isSome = isOne vals := by
    unfold common
    cases q : isOne vals with
    | false => rfl
    | true =>
      cases q2 : vals with
      | nil => rw [q2] at q; cases q
      | cons _ _ => rfl
  refine r_not (Evl.et_is (Evl.et_and (isN (Evl.ev_var rfl) eB) fun _ => Evl.et_B (bool_ (call_ (P := fun (i : List (List Str)) => is rBool (isIn nxt i)) bd (ea1 (R := rBody) (var rfl r4).tn)))) (by
    rw [cS]
    cases q : isOne vals with
    | false => rw [isIn_not.mpr (hnn q)]; rfl
    | true => rfl)) fun H3 e3 => ?_
  have e13 := e2.trans e3
  have hx3 := hx1.up e13
  obtain ⟨dx, h, db, od, kvs, nn, ee, i1, i2, ⟨i3, i4⟩, ⟨i5, i6⟩, i7, i8⟩ := id hx3
  have r43 := up (R := rBodyN) e3 r4
  have r33 := up (R := rOpt rBody) e3 r32
  have r23 := up (R := rPt) (e1.trans e13) r2
  have ln : nn.length ≤ 8 := by
    have := plen i6
    have h1 := List.length_take_le' k (kys made)
    rw [List.length_map] at this
    omega
  have le : ee.length ≤ 8 := by
    have := plen i8
    have h2 : (gk rows made k).length = ((kys made).take k).length := by rw [← gk_keys, List.length_map]
    have h1 := List.length_take_le' k (kys made)
    omega
  have nan : a ≠ dn := fun z => by rw [z, i5] at i1; cases i1
  have nae : a ≠ de := fun z => by rw [z, i7] at i1; cases i1
  refine sq (r_dputT (R := rAny) (x := ()) i5 (ev_is (Evl.ev_var rfl) trivial) (fld (Evl.ev_var rfl) i1 T.cls_MethodTable T.no_next_steps rfl) (var (R := rPt) rfl r23) (by omega) fun v5 H4 e4 _ => ?_)
  have hpok := rPt_ok r23
  have h4n : H4 dn = some (.dT nn) := e4 dn _ i5
  have tx : Tx H3 (upd H4 dn (.dT (putK nn (kT p) v5))) := (Tx.of e4).trans (Tx.upd h4n (fun _ k => by cases k) fun _ _ k => by cases k)
  have j1 : upd H4 dn (.dT (putK nn (kT p) v5)) a = some (.ins (He.ga K "MethodTable") dx (fsM h m db dn de)) := by rw [upd_ne nan]; exact e4 a _ i1
  have j7 : upd H4 dn (.dT (putK nn (kT p) v5)) de = some (.dT ee) := by rw [upd_ne (Ne.symm hne)]; exact e4 de _ i7
  have j5 : upd H4 dn (.dT (putK nn (kT p) v5)) dn = some (.dT (putK nn (kT p) v5)) := upd_same
  have e05 : Ex H0 (upd H4 dn (.dT (putK nn (kT p) v5))) := Ex.mut (((e0.trans e1).trans e13).trans e4) hdn
  have s4 : rBodyN (upd H4 dn (.dT (putK nn (kT p) v5))) v4 bd := upT tx r43
  have s2 : rPt (upd H4 dn (.dT (putK nn (kT p) v5))) v2 p := upT tx r23
  have s8 : KvT rBody (upd H4 dn (.dT (putK nn (kT p) v5))) ee (gk rows made k) := pmap i8 fun _ _ r => ⟨r.1, upT (R := rBody) tx r.2⟩
  have s3 : rOpt rBody (upd H4 dn (.dT (putK nn (kT p) v5))) v3 (common vals) := by
    cases q : common vals with
    | none => rw [q] at r33; exact r33
    | some st => rw [q] at r33; exact upT (R := rBody) tx r33
  dsimp only
  generalize upd H4 dn (.dT (putK nn (kT p) v5)) = H5 at *
  have hN : common vals = none → bd = subst nxt bd (vals.headD []) := fun q => by
    have z := expand_eq (nx := nxt) (b := bd) (vs := vals) (mok.small.short _ hmem).2 comp
    rw [q] at z
    exact z
  have hS : ∀ st, common vals = some st → replaceNext nxt bd st = subst nxt bd (vals.headD []) := fun st q => by
    have z := expand_eq (nx := nxt) (b := bd) (vs := vals) (mok.small.short _ hmem).2 comp
    rw [q] at z
    exact z
  refine r_dputT (R := rBody) (x := subst nxt bd (vals.headD [])) j7 ?_ (fld (Evl.ev_var rfl) j1 T.cls_MethodTable T.no_expanded rfl) (var (R := rPt) rfl s2) (by omega) fun v6 H6 e6 r6 => ?_
  · refine if_ (isN (Evl.ev_var rfl) eB) (fun q => ?_) fun q => ?_
    · have q2 : common vals = none := by
        cases z : common vals with
        | none => rfl
        | some st => rw [z] at q; cases q
      rw [← hN q2]
      exact (var rfl s4).tn
    · obtain ⟨st, q2⟩ : ∃ st, common vals = some st := by
        cases z : common vals with
        | none => rw [z] at q; cases q
        | some st => exact ⟨st, rfl⟩
      rw [q2] at s3
      have hS := hS st q2
      have hst : st.length ≤ 24 := by
        refine vshort st ?_
        unfold common at q2
        split at q2
        · exact List.mem_of_mem_head? (by rw [q2]; exact rfl)
        · cases q2
      rw [← hS]
      exact call_ (P := fun (i : {b : List (List Str) × List (List Str) // b.1.length ≤ 3 ∧ b.2.length ≤ 1000}) => is rBody (replaceNext nxt i.1.1 i.1.2)) ⟨(bd, st), hbo.short, by show st.length ≤ 1000; omega⟩ (ea2 (R := rBodyN) (S := rBody) (var rfl s4) (var rfl s3))
  · have k7 := e6 de _ j7
    refine hq _ (Ex.mut (e05.trans e6) hde) ⟨putK nn (kT p) v5, putK ee (kT p) v6, ⟨by rw [upd_ne hne]; exact e6 dn _ j5, ?_⟩, upd_same, ?_⟩
    · have : ((kys made).take (k + 1)).map (fun p => (p, ())) = ((kys made).take k).map (fun p => (p, ())) ++ [(p, ())] := by
        have hkk : (kys made)[k]? = some p := by rw [List.getElem?_map, hk]; rfl
        rw [List.take_add_one, hkk, List.map_append]
        rfl
      rw [this]
      refine kapp (by rw [List.map_map, show ((fun x : List Str × Unit => x.1) ∘ fun p : List Str => (p, ())) = id from rfl, List.map_id]; exact knew) hpok (pmap i6 fun _ _ r => ⟨r.1, trivial⟩) trivial
    · rw [gk_succ hk]
      exact kapp (by rw [gk_keys]; exact knew) hpok (kupd k7 rfl (pmap s8 fun _ _ r => ⟨r.1, up (R := rBody) e6 r.2⟩)) (upT (R := rBody) (Tx.upd k7 (fun _ k => by cases k) fun _ _ k => by cases k) r6)
end
end FM

/-! ## FMT -/
set_option Elab.async false
set_option linter.all false
set_option maxRecDepth 100000
set_option maxHeartbeats 2000000
/-! The table's constructor. -/
namespace FM
open PySem PySem.Spec PyProof.Rows L2
open Evl (Ex EvT Ev)
instance {x : V} : Dn (fun _ v _ => v = x) := ⟨fun _ h => h⟩
theorem paired_map {α β γ : Type} {F : α → β → Prop} {G : α → γ → Prop} {f : γ → β} : ∀ {l : List α} {m : List γ}, Paired F l (m.map f) → (∀ x z, z ∈ m → F x (f z) → G x z) → Paired G l m
  | _, [], .nil, _ => .nil
  | _, z :: m, .cons h t, k => .cons (k _ z (by simp) h) (paired_map t fun x y hy => k x y (by simp [hy]))
section
variable {K : PySem.W.Frag} {σ : L2.St} {H : Hp} {te ta tv : TE} {tr : TA} {D : Ends}
theorem stat_ {ι : Type} {A : ι → List V → Hp → Prop} {P : ι → Hp → V → Hp → Prop} {C a dx : Addr} {m : Str} {fs : List (Str × V)} (i : ι) [Dn (P i)] (ho : Ev ta σ H (.ref a)) (ha : H a = some (.ins C dx fs)) (l : fs.lookup m = none) (h : EvAs tr σ H (A i)) : EvP (FS.tStat C m (spOf A P) ta tr) σ H (P i) := fun H1 e Q q =>
  ho H1 e _ fun H2 e2 => ⟨a, dx, fs, rfl, e2 a _ (e a _ ha), l, h H2 (e.trans e2) _ fun vs H3 e3 hA => ⟨i, hA, fun v H4 e4 p => q v H4 ((e2.trans e3).trans e4) (Dn.dn (e2.trans e3) p)⟩⟩
/-- self.f = value, the value known -/
theorem r_sfldV {a C dx : Addr} {fs : List (Str × V)} {f : Str} {y : V} (hv : Ev tv σ H y) (ho : Ev ta σ H (.ref a)) (ha : H a = some (.ins C dx fs)) (hc : Cls K C) (hn : NoAttr K C f) (hl : fs.length < 1000) (k : ∀ H1, Ex H H1 → D.nx σ (upd H1 a (.ins C dx (putF f y fs)))) : sFld K ta tv f D σ H :=
  hv H (Ex.refl _) _ fun H1 e1 => ho H1 e1 _ fun H2 e2 => ⟨a, C, dx, fs, rfl, e2 a _ (e1 a _ ha), hc, hn, hl, k H2 (e1.trans e2)⟩
theorem lenT_ {d : Addr} {kvs : List (List Key × V)} (h : Ev te σ H (.ref d)) (hd : H d = some (.dT kvs)) : Ev (tCB rLenT (tCons te tNil)) σ H (.int ((kvs.length : Nat) : Int)) := fun H1 e Q q =>
  h H1 e _ fun H2 e2 => ⟨d, kvs, rfl, e2 d _ (e d _ hd), q H2 e2⟩
end
section
variable {P : Program} {w : World} {K : PySem.W.Frag} {mg : Str → Option Value} {base : Heap}
abbrev sp_MT (K : PySem.W.Frag) : Sp := spI (He.ga K "MethodTable") (fun (i : MtI) => a3 (rH K) rInt rMadeN i.rows (i.m : Int) i.made) fun i H v => rM K H v (i.rows, i.m, i.made)
theorem ok_MethodTable (T : Txt K mg) (G_MethodTable_is_count : FS.GSt P w K mg base "MethodTable" "is_count" 1 sp_count) (G_require_methods : GFn P w K mg base "require_methods" 4 (sp_req_methods (K := K)))
    (G_listed : GFn P w K mg base "listed" 5 (sp_listed (K := K))) (G_MethodTable_expand : GMt P w K mg base "MethodTable" "expand" 8 (sp_expand K)) : GMk P w K mg base "MethodTable" 9 (sp_MT K) := by
  obtain ⟨fd, F⟩ := T.d_MethodTable___init__
  have sc := (C8.fnScope_by (N := ["self", "hierarchy", "count", "methods", "given", "point"]) (P := ["self", "hierarchy", "count", "methods"]) (sc := defScope st_MethodTable___init__) (by kernel_rfl))
  obtain ⟨ds, hds, hb⟩ := F.binds1 (ps := ["self", "hierarchy", "count", "methods"]) 4 1 (fun h => by cases h) rfl (fun Tt kV doc pm an cdv ct us its hl hi => match us, hl, its, hi with | [_, _, _, _], _, [_], _ => ⟨_, rfl, rfl⟩)
  have hds : ds = [] := by cases hds; rfl
  subst hds
  refine ⟨_, fd, _, T.g_MethodTable, T.mk_MethodTable, bodI_ok F sc (fun i vs H ⟨_, _, _, e, _⟩ => by rw [e]; rfl) ?_, hb⟩
  intro cdv A outer s H E ⟨rows, m, made, ok, h1, h3, mok, bods⟩ a dx r H0 Q hr ha ha0 e0 ⟨v2, v3, v4, e, r2, r3, r4⟩ hq
  have nd := sc.nd
  have hu := u1 hr
  subst e
  refine ⟨_, (PSs.nox (pss_cons (ps_if (pt_not (pt_val (FS.kstat (K := K) G_MethodTable_is_count hr (pv 0) (pa_cons (pv 2) pa_nil)))) (pss_one ps_never) pss_nil)
      (pss_cons (ps_set (i := 4) nd (by rfl) (by first | exact Or.inl rfl | exact Or.inr rfl) (pe_ifExp (pt_cmpR op_isN (pv 3) pe_non (nomark _)) pe_dnewT (pv 3)))
      (pss_cons (ps_expr (kcall G_require_methods hr (pa_cons (pv 1) (pa_cons (pv 2) (pa_cons (pv 4) pa_nil)))))
      (pss_cons (ps_if (pt_cmpR op_gt (pe_callB call_len_dT (by rfl) T.len (by decide +kernel) (pa_cons (pv 4) pa_nil)) (k_con K (pv 0)) (nomark _)) (pss_one ps_never) pss_nil)
      (pss_cons (k_sfld K (pv 0) (pv 1))
      (pss_cons (k_sfld K (pv 0) (pv 2))
      (pss_cons (k_sfld K (pv 0) (FD.pe_dcT (own := [("point", 5)]) (by rfl) nd hu (k_pil K (kcall G_listed hr (pa_cons (pv 1) (pa_cons (pe_callTy k_list_dT (by rfl) T.list (by decide +kernel) (pa_cons (pv 4) pa_nil)) pa_nil)))) (blkOk_by (by kernel_rfl)) (fun _ _ _ _ _ => (pg_name (i := 5) nd (by rfl) (by first | exact Or.inl rfl | exact Or.inr rfl))) (fun _ _ _ _ _ => (pv 5)) (fun _ _ _ _ _ => (pe_dget hu (pv 4) (pv 5) (by intro _ _; rfl)))))
      (pss_cons (k_sfld K (pv 0) pe_dnewT)
      (pss_cons (k_sfld K (pv 0) pe_dnewT)
      (pss_one (ps_lock (ps_for PassesOwn.never (by rfl) (pi_keys (k_fld K (pv 0))) (pg_name (i := 5) nd (by rfl) (by first | exact Or.inl rfl | exact Or.inr rfl)) (pss_one (ps_expr (kmeth G_MethodTable_expand hr (pv 0) (pa_cons (pv 5) pa_nil))))))))))))))))), ?_⟩
  have r2 : rH K H0 v2 rows := r2
  have r3 : v3 = .int (m : Int) := r3
  have r4 : rMadeN H0 v4 made := r4
  have hq : ∀ H', Ex H0 H' → rM K H' (.ref a) (rows, m, made) → Q .non H' := hq
  subst r3
  have few := mok.small.few
  have hk8 : (kys made).length = made.length := List.length_map _
  obtain ⟨d, kvg, ed, hdg, rkg⟩ := id r4
  subst ed
  refine r_not (Evl.et_not (Evl.et_B (bool_ (stat_ (P := fun (_ : CntI) => is rBool true) ⟨m, h1, h3⟩ (Evl.ev_var rfl) ha rfl (ea1 (R := rInt) (Ev.i (Evl.ev_var rfl))))))) fun H1 e1 => ?_
  have e01 := e0.trans e1
  refine r_setV (v := .ref d) (EvP.ev ((if_ (P := fun _ v _ => v = .ref d) (b := false) (isN (Evl.ev_var rfl) rfl) (fun q => by cases q) fun _ => .of_ev (Evl.ev_var rfl) fun _ _ _ _ => rfl))) fun H2 e2 => ?_
  have e02 := e01.trans e2
  refine sq (r_drop (call_ (P := fun (_ : RmI) => isNon) ⟨rows, m, made, h1, h3, mok.pts, bods⟩ (ea3 (R := rH K) (S := rInt) (T := rMadeN) (var rfl (up (R := rH K) e02 r2)) (Ev.i (Evl.ev_var rfl)) (var rfl (up (R := rMadeN) e02 r4)))) fun _ H3 e3 _ => ?_)
  have e03 := e02.trans e3
  have ha3 := ((e1.trans e2).trans e3) a _ ha
  refine r_not (Evl.et_is (Evl.et_test (Evl.ev_op (lenT_ (Evl.ev_var rfl) (e03 d _ hdg)) (con_ (Evl.ev_var rfl) ha3 T.cls_MethodTable T.lim_M rfl) Evl.rv_I0)) (show decide ((40 : Int) < ((kvg.length : Nat) : Int)) = false from decide_eq_false (by have := plen rkg; omega))) fun H4 e4 => ?_
  have e04 := e03.trans e4
  have ha4 := e4 a _ ha3
  refine sq (r_sfldV (Evl.ev_var rfl) (Evl.ev_var rfl) ha4 T.cls_MethodTable T.no_class_order (show (0 : Nat) < 1000 by decide) fun H5 e5 => ?_)
  have e05 : Ex H0 (upd H5 a (.ins (He.ga K "MethodTable") dx [("class_order", v2)])) := Ex.mut (e04.trans e5) ha0
  have ha5 : upd H5 a (.ins (He.ga K "MethodTable") dx [("class_order", v2)]) a = some (.ins (He.ga K "MethodTable") dx [("class_order", v2)]) := upd_same
  show tSeq _ _ _ _ (upd H5 a (.ins (He.ga K "MethodTable") dx [("class_order", v2)]))
  generalize upd H5 a (.ins (He.ga K "MethodTable") dx [("class_order", v2)]) = G5 at e05 ha5
  refine sq (r_sfldV (Evl.ev_var rfl) (Evl.ev_var rfl) ha5 T.cls_MethodTable T.no_parameter_count (show (1 : Nat) < 1000 by decide) fun H6 e6 => ?_)
  have e06 : Ex H0 (upd H6 a (.ins (He.ga K "MethodTable") dx [("class_order", v2), ("parameter_count", .int (m : Int))])) := Ex.mut (e05.trans e6) ha0
  have ha6 : upd H6 a (.ins (He.ga K "MethodTable") dx [("class_order", v2), ("parameter_count", .int (m : Int))]) a = some (.ins (He.ga K "MethodTable") dx [("class_order", v2), ("parameter_count", .int (m : Int))]) := upd_same
  show tSeq _ _ _ _ (upd H6 a (.ins (He.ga K "MethodTable") dx [("class_order", v2), ("parameter_count", .int (m : Int))]))
  generalize upd H6 a (.ins (He.ga K "MethodTable") dx [("class_order", v2), ("parameter_count", .int (m : Int))]) = G6 at e06 ha6
  have rM6 := up (R := rMadeN) e06 r4
  have rD6 : rDit rBodyN G6 (.ref d) made := rDitU.rd rM6
  have lst : EvP (tCall (sp_listed (K := K)) [] E0 (tCons (tVar 1) (tCons (tCB qListT (tCons (tVar 4) tNil)) tNil))) [some (V.ref a), some v2, some (V.int (m : Int)), some (V.ref d), some (V.ref d), none] G6 (nw rPts (kys made)) := by
    have z := call_ (E := E0) (σ := [some (V.ref a), some v2, some (V.int (m : Int)), some (V.ref d), some (V.ref d), none]) (H := G6) (P := fun (i : OrI) => nw rPts (srt i.rows i.m i.ps)) (A := fun (i : OrI) => a2 (rH K) rPts i.rows i.ps) (tr := tCons (tVar 1) (tCons (tCB qListT (tCons (tVar 4) tNil)) tNil)) ⟨rows, m, kys made, mok.pts, h1, h3, ok, by omega, mok.sorted.nodup⟩
      (ea2 (R := rH K) (S := rPts) (var rfl (up (R := rH K) e06 r2)) (EvP.of_nw (list_dT (R := rBodyN) (var (R := rDit rBodyN) rfl rD6))))
    have e : srt rows m (kys made) = kys made := srt_eq ok mok.pts mok.sorted
    rw [e] at z
    exact z
  have ndk : ((kys made).map kT).Nodup := nodup_on (fun x hx y hy e => kT_inj e) mok.sorted.nodup
  refine sq (r_sfld (dcD (R := rPt) (S := rBodyN) (xs := kys made) kT (fun p => (at? made p).getD []) gm_name (by omega) ndk (i_list (EvP.of_nw lst)) ?_) (Evl.ev_var rfl) ha6 T.cls_MethodTable T.no_bodies (show (2 : Nat) < 1000 by decide) fun y H7 e7 ⟨Hm, em, em2, db, kvs, ey, hn, hdm, rkv⟩ => ?_)
  · intro j p v H8 hpj e8 rp
    obtain ⟨u, hu', _⟩ := at?_some (List.mem_of_getElem? hpj)
    refine ⟨Ex.refl _, rfl, (var (R := rPt) rfl rp).imp fun _ y H9 _ _ r => let ⟨b, eb, hb, _⟩ := rPt_at r; ⟨b, eb, hb⟩, ?_⟩
    rw [hu']
    exact getT (R := rBodyN) (var (R := rDit rBodyN) rfl (up (R := rDit rBodyN) e8 rD6)) (var rfl rp) hu'
  subst ey
  have nba : db ≠ a := fun z => by rw [z, ha6] at hn; cases hn
  have hdb0 : H0 db = none := Evl.fresh_back e06 hn
  let F3 : List (Str × V) := [("class_order", v2), ("parameter_count", .int (m : Int)), ("bodies", .ref db)]
  have e07 : Ex H0 (upd H7 a (.ins (He.ga K "MethodTable") dx F3)) := Ex.mut (e06.trans e7) ha0
  have ha7 : upd H7 a (.ins (He.ga K "MethodTable") dx F3) a = some (.ins (He.ga K "MethodTable") dx F3) := upd_same
  have hdb7 : upd H7 a (.ins (He.ga K "MethodTable") dx F3) db = some (.dT kvs) := by rw [upd_ne nba]; exact em2 db _ hdm
  have tx : Tx Hm (upd H7 a (.ins (He.ga K "MethodTable") dx F3)) := (Tx.of em2).trans (Tx.upd (e7 a _ ha6) (fun _ k => by cases k) fun _ _ k => by cases k)
  have rk7 : KvT rBodyN (upd H7 a (.ins (He.ga K "MethodTable") dx F3)) kvs made := paired_map (f := fun z : List Str × List (List Str) => z.1) rkv fun kv z hz ⟨k1, k2⟩ => by
    have e1 : at? made z.1 = some z.2 := at?_mem mok.sorted.nodup hz
    have k2 : rBodyN Hm kv.2 ((at? made z.1).getD []) := k2
    rw [e1] at k2
    obtain ⟨kv2, hk2, ⟨_, hs⟩, _⟩ := pgetR rkg (List.mem_iff_getElem?.mp hz).choose_spec
    exact ⟨⟨k1, hs⟩, upT (R := rBodyN) tx k2⟩
  show tSeq _ _ _ _ (upd H7 a (.ins (He.ga K "MethodTable") dx F3))
  generalize upd H7 a (.ins (He.ga K "MethodTable") dx F3) = G7 at e07 ha7 hdb7 rk7
  refine sq (r_sfld dnewT (Evl.ev_var rfl) ha7 T.cls_MethodTable T.no_next_steps (show (3 : Nat) < 1000 by decide) fun y H8 e8 ⟨Hm8, em8, em28, dn, ey, hn8, hdm8⟩ => ?_)
  subst ey
  have nna : dn ≠ a := fun z => by rw [z, ha7] at hn8; cases hn8
  have nnb : dn ≠ db := fun z => by rw [z, hdb7] at hn8; cases hn8
  have hdn0 : H0 dn = none := Evl.fresh_back e07 hn8
  let F4 : List (Str × V) := [("class_order", v2), ("parameter_count", .int (m : Int)), ("bodies", .ref db), ("next_steps", .ref dn)]
  have e08 : Ex H0 (upd H8 a (.ins (He.ga K "MethodTable") dx F4)) := Ex.mut (e07.trans e8) ha0
  have ha8 : upd H8 a (.ins (He.ga K "MethodTable") dx F4) a = some (.ins (He.ga K "MethodTable") dx F4) := upd_same
  have hdb8 : upd H8 a (.ins (He.ga K "MethodTable") dx F4) db = some (.dT kvs) := by rw [upd_ne nba]; exact e8 db _ hdb7
  have hdn8 : upd H8 a (.ins (He.ga K "MethodTable") dx F4) dn = some (.dT []) := by rw [upd_ne nna]; exact em28 dn _ hdm8
  have rk8 : KvT rBodyN (upd H8 a (.ins (He.ga K "MethodTable") dx F4)) kvs made := kupd (e8 a _ ha7) rfl (pmap rk7 fun _ _ r => ⟨r.1, up (R := rBodyN) e8 r.2⟩)
  show tSeq _ _ _ _ (upd H8 a (.ins (He.ga K "MethodTable") dx F4))
  generalize upd H8 a (.ins (He.ga K "MethodTable") dx F4) = G8 at e08 ha8 hdb8 hdn8 rk8
  refine sq (r_sfld dnewT (Evl.ev_var rfl) ha8 T.cls_MethodTable T.no_expanded (show (4 : Nat) < 1000 by decide) fun y H9 e9 ⟨Hm9, em9, em29, de, ey, hn9, hdm9⟩ => ?_)
  subst ey
  have nea : de ≠ a := fun z => by rw [z, ha8] at hn9; cases hn9
  have neb : de ≠ db := fun z => by rw [z, hdb8] at hn9; cases hn9
  have nen : de ≠ dn := fun z => by rw [z, hdn8] at hn9; cases hn9
  have hde0 : H0 de = none := Evl.fresh_back e08 hn9
  have e09 : Ex H0 (upd H9 a (.ins (He.ga K "MethodTable") dx (fsM v2 m db dn de))) := Ex.mut (e08.trans e9) ha0
  have ha9 : upd H9 a (.ins (He.ga K "MethodTable") dx (fsM v2 m db dn de)) a = some (.ins (He.ga K "MethodTable") dx (fsM v2 m db dn de)) := upd_same
  have hdb9 : upd H9 a (.ins (He.ga K "MethodTable") dx (fsM v2 m db dn de)) db = some (.dT kvs) := by rw [upd_ne nba]; exact e9 db _ hdb8
  have hdn9 : upd H9 a (.ins (He.ga K "MethodTable") dx (fsM v2 m db dn de)) dn = some (.dT []) := by rw [upd_ne nna]; exact e9 dn _ hdn8
  have hde9 : upd H9 a (.ins (He.ga K "MethodTable") dx (fsM v2 m db dn de)) de = some (.dT []) := by rw [upd_ne nea]; exact em29 de _ hdm9
  have rk9 : KvT rBodyN (upd H9 a (.ins (He.ga K "MethodTable") dx (fsM v2 m db dn de))) kvs made := kupd (e9 a _ ha8) rfl (pmap rk8 fun _ _ r => ⟨r.1, up (R := rBodyN) e9 r.2⟩)
  show tLock _ _ _ (upd H9 a (.ins (He.ga K "MethodTable") dx (fsM v2 m db dn de)))
  generalize upd H9 a (.ins (He.ga K "MethodTable") dx (fsM v2 m db dn de)) = G at e09 ha9 hdb9 hdn9 hde9 rk9
  refine ⟨db, .dT kvs, hdb9, trivial, fun od => ?_⟩
  have k1 : upd G db (.frz od (.dT kvs)) db = some (.frz od (.dT kvs)) := upd_same
  have k2 : upd G db (.frz od (.dT kvs)) dn = some (.dT []) := by rw [upd_ne nnb]; exact hdn9
  have k3 : upd G db (.frz od (.dT kvs)) de = some (.dT []) := by rw [upd_ne neb]; exact hde9
  have k4 : upd G db (.frz od (.dT kvs)) a = some (.ins (He.ga K "MethodTable") dx (fsM v2 m db dn de)) := by rw [upd_ne (Ne.symm nba)]; exact ha9
  have k5 : Ex H0 (upd G db (.frz od (.dT kvs))) := Ex.mut e09 hdb0
  have k6 : KvT rBodyN (upd G db (.frz od (.dT kvs))) kvs made := kupd hdb9 rfl rk9
  generalize upd G db (.frz od (.dT kvs)) = L at k1 k2 k3 k4 k5 k6
  let B : Hp := fun b => if b = dn ∨ b = de then none else L b
  have eB : Ex B L := fun b o h => by
    have h : (if b = dn ∨ b = de then none else L b) = some o := h
    split at h
    · cases h
    · exact h
  have bdn : B dn = none := if_pos (.inl rfl)
  have bde : B de = none := if_pos (.inr rfl)
  have bne : ∀ {b o}, b ≠ dn → b ≠ de → L b = some o → B b = some o := fun h h' k => (if_neg (fun z => z.elim h h')).trans k
  have Ba : B a = some (.ins (He.ga K "MethodTable") dx (fsM v2 m db dn de)) := bne (Ne.symm nna) (Ne.symm nea) k4
  have Bdb : B db = some (.frz od (.dT kvs)) := bne (Ne.symm nnb) (Ne.symm neb) k1
  have rkB : KvT rBodyN B kvs made := pmap k6 fun _ _ r => ⟨r.1, upT (R := rBodyN) (fun b o xs h k => bne (fun z => by rw [z, k2] at k; cases k; rcases h with h | ⟨_, h⟩ <;> cases h) (fun z => by rw [z, k3] at k; cases k; rcases h with h | ⟨_, h⟩ <;> cases h) k) r.2⟩
  have e0B : Ex H0 B := fun b o h => bne (fun z => by rw [z, hdn0] at h; cases h) (fun z => by rw [z, hde0] at h; cases h) (k5 b o h)
  refine r_for (H := B) (j_keysT (R := rBodyN) (fld (Evl.ev_var rfl) Ba T.cls_MethodTable T.no_bodies rfl) Bdb rkB) eB
    (fun j σ' H' => (∃ u, σ' = [some (V.ref a), some v2, some (V.int (m : Int)), some (V.ref d), some (V.ref d), u]) ∧ Grew rows made j dn de H')
    (fun H4 e4 => ⟨⟨_, rfl⟩, [], [], ⟨e4 dn _ k2, .nil⟩, e4 de _ k3, .nil⟩) (fun Hn en hno j σ' H' hj hI eh v5 H3' e3' ⟨p, hp, rp⟩ => ?_) fun σ' H' hI eh => ?_
  · obtain ⟨⟨u, rfl⟩, nn, ee, ⟨g1, g2⟩, g3, g4⟩ := hI
    obtain ⟨z, hz, rfl⟩ : ∃ z, made[j]? = some z ∧ z.1 = p := by
      rw [List.getElem?_map] at hp
      cases q : made[j]? with
      | none => rw [q] at hp; cases hp
      | some z => rw [q] at hp; exact ⟨z, rfl, Option.some.inj hp⟩
    have eB3 := (en.trans eh).trans e3'
    have hx : Exs K rows m made j a dn de H3' := ⟨dx, v2, db, od, kvs, nn, ee, eB3 a _ Ba, up (R := rH K) (e0B.trans eB3) r2, ⟨eB3 db _ Bdb, pmap rkB fun _ _ r => ⟨r.1, up (R := rBodyN) eB3 r.2⟩⟩, ⟨e3' dn _ g1, pmap g2 fun _ _ r => ⟨r.1, trivial⟩⟩, e3' de _ g3, pmap g4 fun _ _ r => ⟨r.1, up (R := rBody) e3' r.2⟩⟩
    show tDrop _ _ [some (V.ref a), some v2, some (V.int (m : Int)), some (V.ref d), some (V.ref d), some v5] H3'
    refine ⟨.ref a, rfl, a, dx, fsM v2 m db dn de, rfl, eB3 a _ Ba, rfl, v5, rfl, ⟨rows, m, made, ok, h1, h3, mok, bods⟩, j, z, a, dn, de, v5, Hn, hz, rfl, hx, rp, Ne.symm nen, eh.trans e3', hno dn _ bdn k2 rfl, hno de _ bde k3 rfl, fun H6' e6' gr => ⟨⟨⟨_, rfl⟩, gr⟩, e6'⟩⟩
  · obtain ⟨⟨u, rfl⟩, nn, ee, ⟨g1, g2⟩, g3, g4⟩ := hI
    have ll : (made.map (·.1)).length = made.length := List.length_map _
    rw [ll, gk_all] at g4
    have hfr := eh db _ Bdb
    have efin : Ex H0 (upd H' db (.dT kvs)) := Ex.mut (e0B.trans eh) hdb0
    refine ⟨hfr, hq _ efin ⟨⟨a, dx, v2, db, dn, de, rfl, ?_, up (R := rH K) efin r2, db, kvs, rfl, .inl upd_same, kupd hfr rfl (pmap rkB fun _ _ r => ⟨r.1, up (R := rBodyN) eh r.2⟩)⟩, ⟨a, dx, v2, m, db, dn, de, rfl, ?_, de, ee, rfl, .inl ?_, kupd hfr rfl g4⟩⟩⟩
    · rw [upd_ne (Ne.symm nba)]
      exact eh a _ Ba
    · rw [upd_ne (Ne.symm nba)]
      exact eh a _ Ba
    · rw [upd_ne neb]
      exact g3
end
end FM

/-! ## FConf -/
set_option Elab.async false
set_option linter.all false
set_option maxRecDepth 100000
set_option maxHeartbeats 2000000
/-! Conflicts: the ambiguous common points, the highest of them. -/
namespace FM
open PySem PySem.Spec PyProof.Rows L2
open Evl (Ex EvT Ev)
/-- one object not seen -/
def wo (L : Addr) (H : Hp) : Hp := fun b => if b = L then none else H b
theorem wo_none {L : Addr} {H : Hp} : wo L H L = none := if_pos rfl
theorem wo_ne {L b : Addr} {H : Hp} (h : b ≠ L) : wo L H b = H b := if_neg h
theorem wo_ex {L : Addr} {H : Hp} : Ex (wo L H) H := fun b o h => by
  by_cases e : b = L
  · rw [e, wo_none] at h; cases h
  · rw [wo_ne e] at h; exact h
theorem wo_le {L : Addr} {H H' : Hp} (e : Ex H H') (h : H L = none) : Ex H (wo L H') := fun b o k => by
  rw [wo_ne fun z => by rw [z, h] at k; cases k]
  exact e b o k
theorem wo_tx {L : Addr} {H : Hp} {us : List V} (h : H L = some (.lst us)) : Tx H (wo L H) := fun b o xs k e => by
  rw [wo_ne fun z => by rw [z, h] at e; cases e; rcases k with k | ⟨_, k⟩ <;> cases k]
  exact e
/-- what a point comes to -/
abbrev exOf (rows : Rows Str) (made : Made) (p : List Str) : List (List Str) := (at? (grown rows made) p).getD []
abbrev ambOf (rows : Rows Str) (made : Made) (s : List Str) : Bool := amb (leOf rows) (kys made) (exOf rows made) s
theorem told_amb (rows : Rows Str) (made : Made) (s : List Str) : decide (told (valsOf rows made s) = "ambiguous") = ambOf rows made s := by
  show _ = (!(valsOf rows made s).isEmpty && !isOne (valsOf rows made s))
  unfold told
  cases q : valsOf rows made s with
  | nil => decide +kernel
  | cons v vs =>
    rw [if_neg (by simp)]
    cases q2 : isOne (v :: vs) with
    | true =>
      rw [if_pos rfl]
      show decide (("answered" : Str) = "ambiguous") = false
      decide +kernel
    | false =>
      rw [if_neg (by decide)]
      show decide (("ambiguous" : Str) = "ambiguous") = true
      decide +kernel
/-- the points gathered so far -/
structure InvC (am : List Str → Bool) (C : List (List Str)) (Z : List Str → Prop) : Prop where
  nd : C.Nodup
  mem : ∀ r, r ∈ C ↔ am r = true ∧ Z r
theorem InvC.step {am : List Str → Bool} {C : List (List Str)} {Z : List Str → Prop} {r0 : List Str} (h : InvC am C Z) : InvC am (if (!isIn r0 C && am r0) = true then C ++ [r0] else C) fun r => Z r ∨ r = r0 := by
  by_cases q : (!isIn r0 C && am r0) = true
  · rw [if_pos q]
    rw [Bool.and_eq_true, Bool.not_eq_true', isIn_not] at q
    refine ⟨?_, fun r => ?_⟩
    · rw [List.nodup_append]
      refine ⟨h.nd, by simp, fun a ha b hb e => ?_⟩
      rw [List.mem_singleton.mp hb] at e
      exact q.1 (e ▸ ha)
    · rw [List.mem_append, h.mem, List.mem_singleton]
      constructor
      · rintro (⟨h1, h2⟩ | h1)
        · exact ⟨h1, .inl h2⟩
        · exact ⟨by rw [h1]; exact q.2, .inr h1⟩
      · rintro ⟨h1, h2 | h2⟩
        · exact .inl ⟨h1, h2⟩
        · exact .inr h2
  · rw [if_neg q]
    refine ⟨h.nd, fun r => ?_⟩
    constructor
    · intro hr
      obtain ⟨h1, h2⟩ := (h.mem r).mp hr
      exact ⟨h1, .inl h2⟩
    · rintro ⟨h1, h2 | h2⟩
      · exact (h.mem r).mpr ⟨h1, h2⟩
      · subst h2
        cases k : isIn r C with
        | true => exact isIn_iff.mp k
        | false => exact absurd (by rw [k, h1]; rfl) q
theorem InvC.congr {am : List Str → Bool} {C : List (List Str)} {Z Z' : List Str → Prop} (h : InvC am C Z) (k : ∀ r, Z r ↔ Z' r) : InvC am C Z' := ⟨h.nd, fun r => by rw [h.mem, k]⟩
theorem nodup_le {α : Type} [DecidableEq α] : ∀ {l m : List α}, l.Nodup → (∀ x ∈ l, x ∈ m) → l.length ≤ m.length
  | [], _, _, _ => Nat.zero_le _
  | a :: l, m, h, k => by
    rw [List.nodup_cons] at h
    have ha := k a (by simp)
    have := nodup_le (l := l) (m := m.erase a) h.2 fun x hx => (List.mem_erase_of_ne (fun (e : x = a) => h.1 (e ▸ hx))).mpr (k x (by simp [hx]))
    rw [List.length_erase_of_mem ha] at this
    have := List.length_pos_of_mem ha
    simp only [List.length_cons]
    omega
section
variable {P : Program} {w : World} {K : PySem.W.Frag} {mg : Str → Option Value} {base : Heap}
/-- what is gathered in the end -/
def Gath (rows : Rows Str) (made : Made) (C : List (List Str)) : Prop := C.Nodup ∧ Commons (nms rows) (leOf rows) (kys made) (exOf rows made) C
abbrev sp_ac : Sp := spOf (fun (i : MtI) => a1 (rM K) (i.rows, i.m, i.made)) fun i => someN (rLst rPt) (Gath i.rows i.made)
/-- pairs of the walk -/
abbrev Pr (rows : Rows Str) (made : Made) (i j : Nat) (r : List Str) : Prop := ∃ a b, (kys made)[i]? = some a ∧ (kys made)[j]? = some b ∧ r ∈ hcp (nms rows) (leOf rows) a b
abbrev Z1 (rows : Rows Str) (made : Made) (I : Nat) (r : List Str) : Prop := ∃ i j, j < i ∧ i < I ∧ Pr rows made i j r
abbrev Z2 (rows : Rows Str) (made : Made) (I J : Nat) (r : List Str) : Prop := Z1 rows made I r ∨ ∃ j, j < J ∧ Pr rows made I j r
theorem ok_ambiguous_commons (T : Txt K mg) (G_MethodTable_points : GMt P w K mg base "MethodTable" "points" 1 (sp_points (K := K))) (G_MethodTable_hierarchy : GMt P w K mg base "MethodTable" "hierarchy" 1 (sp_hier (K := K)))
    (G_highest_common_points : GFnR P w K mg base "highest_common_points" 5 (sp_hcp (K := K))) (G_status : GFn P w K mg base "status" 9 (sp_status (K := K))) : GFn P w K mg base "ambiguous_commons" 10 (sp_ac (K := K)) := by
  obtain ⟨fd, F⟩ := T.d_ambiguous_commons
  have sc := (C8.fnScope_by (N := ["table", "points", "found", "place", "first", "second", "point"]) (P := ["table"]) (sc := defScope st_ambiguous_commons) (by kernel_rfl))
  refine gfn T.g_ambiguous_commons F sc (F.bindsN fun _ _ _ _ _ _ us hl => match us, hl with | [_], _ => rfl) (fun i vs H ⟨_, e, _⟩ => by rw [e]; rfl) ?_
  intro cdv A outer s H E ⟨rows, m, made, ok, h1, h3, mok, bods⟩ vs Q hr ⟨v1, e, r1⟩ hq
  have nd := sc.nd
  have hu65 := u65 hr
  subst e
  refine ⟨_, (PSs.nox (pss_cons (ps_par (i := 1) (j := 2) (by rfl) nd (by rfl) (by rfl) (by decide) (by rfl) (by rfl) (pa_cons (kmeth0 G_MethodTable_points hr (pv 0)) (pa_cons (pe_lst pa_nil) pa_nil)) (by rfl))
      (pss_cons (ps_for PassesOwn.never (by rfl) (k_enum K T.enumerate (pa_cons (pv 1) pa_nil)) (k_gtup K (n := 2) (pgs_cons (pg_name (i := 3) nd (by rfl) (by first | exact Or.inl rfl | exact Or.inr rfl)) (pgs_cons (pg_name (i := 4) nd (by rfl) (by first | exact Or.inl rfl | exact Or.inr rfl)) pgs_nil))) (pss_one (ps_for PassesOwn.never (by rfl) (k_pil K (pe_slice (k_slL K) (pv 1) po_none (po_some (pv 3)))) (pg_name (i := 5) nd (by rfl) (by first | exact Or.inl rfl | exact Or.inr rfl)) (pss_one (ps_for PassesOwn.never (by rfl) (k_pil K (kcallR G_highest_common_points hr (pa_cons (kmeth0 G_MethodTable_hierarchy hr (pv 0)) (pa_cons (pv 4) (pa_cons (pv 5) pa_nil))))) (pg_name (i := 6) nd (by rfl) (by first | exact Or.inl rfl | exact Or.inr rfl)) (pss_one (ps_if (PW.pt (pw_and (pt_cmpR (k_notInD K hu65) (pv 6) (pv 2) (by rfl)) (pw_and1 (pt_cmpR op_eq (kcall G_status hr (pa_cons (pv 0) (pa_cons (pv 6) pa_nil))) (pgS T.g_AMBIGUOUS_conflicts) (nomark _))))) (pss_one (ps_expr (k_bm K PySem.F.plainAttrs_list PySem.F.slot_list_append PySem.F.type_list_append mt_append (pv 2) (pa_cons (pv 6) pa_nil)))) pss_nil)))))))
      (pss_one (ps_ret (pv 2)))))), ?_⟩
  have r1 : rM K H v1 (rows, m, made) := r1
  have few := mok.small.few
  have hk8 : (kys made).length = made.length := List.length_map _
  have hlen : (nms rows).length ≤ 20 := by unfold nms; rw [List.length_map]; exact ok.len
  have hc8 := combos_le (m := m) hlen h3
  have am_len : ∀ {C : List (List Str)} {Z : List Str → Prop}, InvC (ambOf rows made) C Z → (∀ r, Z r → ∃ i j, Pr rows made i j r) → C.length ≤ 8000 := fun {C Z} h k => by
    refine Nat.le_trans (nodup_le (m := combos (nms rows) m) h.nd fun r hr => ?_) hc8
    obtain ⟨i, j, a, b, ha, hb, hab⟩ := k r ((h.mem r).mp hr).2
    exact mem_combos.mpr ((mem_hcp ok.good.grid (mok.pts a (List.mem_of_getElem? ha)) (mok.pts b (List.mem_of_getElem? hb))).mp hab).1
  refine sq ?_
  have pts : EvP (tMeth (He.ga K "MethodTable") "points" (sp_points (K := K)) [] E0 (tVar 0) tNil) (start ["table", "points", "found", "place", "first", "second", "point"] [v1]) H (nw rPts (kys made)) := mcall_ (P := fun (i : TbX) => nw rPts (kys i.2.2)) (R := rMb K) (rows, m, made) (var rfl r1.1) (rMb_ob fun _ _ _ _ _ => rfl) EvAs.nil m0
  refine pts H (Ex.refl _) _ fun vN H1 e1 ⟨N, ev, hNn, rN⟩ => ?_
  subst ev
  refine (lst_ (R := rPt) (xs := []) pa0 (by decide)) H1 (Ex.refl _) _ fun vL H2 e2 ⟨L, ev, hLn, L', us0, eL, hL, rL⟩ => ?_
  subst ev
  cases eL
  refine ⟨_, _, rfl, ?_⟩
  have r1H : rM K H1 v1 (rows, m, made) := up (R := rM K) e1 r1
  refine r_for (H := H1) (j_enum (R := rPt) (Evl.ev_var rfl) rN) e2
    (fun I σ' H' => (∃ a b c d, σ' = [some v1, some (V.ref N), some (V.ref L), a, b, c, d]) ∧ ∃ us C, H' L = some (.lst us) ∧ Paired (rPt H') us C ∧ InvC (ambOf rows made) C (Z1 rows made I))
    (fun H3 e3 => ⟨⟨_, _, _, _, rfl⟩, us0, [], e3 L _ hL, pmap rL fun _ _ r => up (R := rPt) e3 r, by simp, fun r => ⟨fun h => (by cases h), fun ⟨_, i, j, _, h, _⟩ => absurd h (Nat.not_lt_zero _)⟩⟩) (fun Hn en hno I σ' H' hI hinv eh v3 H3 e3 ⟨p, hp, b, y1, y2, ev, hb, ri, rp⟩ => ?_) fun σ' H' hinv eh => ?_
  · obtain ⟨⟨a0, b0, c0, d0, rfl⟩, us, C, hus, ru, inv⟩ := hinv
    subst ev
    have ri : y1 = .int (I : Int) := ri
    subst ri
    refine ⟨b, _, rfl, .inl (.inl hb), rfl, _, _, rfl, y2, _, rfl, rfl, ?_⟩
    have hLn' : Hn L = none := hno L _ hLn hL rfl
    have hus3 := e3 L _ hus
    have hpp := mok.pts p (List.mem_of_getElem? hp)
    -- the base of the inner walk
    have eB : Ex Hn (wo L H3) := wo_le (eh.trans e3) hLn'
    have rpB : rPt (wo L H3) y2 p := upT (wo_tx hus3) rp
    have rNB : rPts (wo L H3) (.ref N) (kys made) := up (R := rPts) (en.trans eB) rN
    dsimp only
    refine r_for (H := wo L H3) (j_new (R := rPt) (slL_hi (R := rPt) (m := I) (var rfl rNB) (Evl.ev_var rfl))) wo_ex
      (fun J σ2 H' => (∃ c d, σ2 = [some v1, some (V.ref N), some (V.ref L), some (V.int (I : Int)), some y2, c, d]) ∧ ∃ us C, H' L = some (.lst us) ∧ Paired (rPt H') us C ∧ InvC (ambOf rows made) C (Z2 rows made I J))
      (fun H4 e4 => ⟨⟨_, _, rfl⟩, us, C, e4 L _ hus3, pmap ru fun _ _ r => up (R := rPt) (e3.trans e4) r, inv.congr fun r => ⟨.inl, fun h => h.elim id fun ⟨_, h, _⟩ => absurd h (Nat.not_lt_zero _)⟩⟩) (fun Hm em hmo J σ2 H5 hJ hinv2 e5 v6 H6 e6 ⟨q, hq6, rq⟩ => ?_) fun σ2 H5 hinv2 e5 => ?_
    · obtain ⟨⟨c1, d1, rfl⟩, us5, C5, hus5, ru5, inv5⟩ := hinv2
      have hLm : Hm L = none := hmo L _ wo_none hus3 rfl
      have hJI : J < I := by
        have := List.length_take_le I (kys made)
        omega
      have hq0 : (kys made)[J]? = some q := by
        rw [List.getElem?_take] at hq6
        rw [if_pos hJI] at hq6
        exact hq6
      have hqp := mok.pts q (List.mem_of_getElem? hq0)
      have hus6 := e6 L _ hus5
      have eC : Ex Hm (wo L H6) := wo_le (e5.trans e6) hLm
      have rqC : rPt (wo L H6) v6 q := upT (wo_tx hus6) rq
      have eHC : Ex H1 (wo L H6) := (en.trans eB).trans (em.trans eC)
      have r1C : rM K (wo L H6) v1 (rows, m, made) := up (R := rM K) eHC r1H
      have rpC : rPt (wo L H6) y2 p := up (R := rPt) (em.trans eC) rpB
      dsimp only
      refine r_for (H := wo L H6) (j_new (R := rPt) (xs := hcp (nms rows) (leOf rows) p q) (callR_ (P := fun (i : TwI) => nw rPts (hcp (nms i.rows) (leOf i.rows) i.p i.q)) ⟨rows, m, p, q, hpp, hqp, h1, h3, ok⟩ (ea3 (R := rH K) (S := rPt) (T := rPt) (mcall_ (P := fun (i : TbX) => is (rH K) i.1) (R := rMb K) (rows, m, made) (var rfl r1C.1) (rMb_ob fun _ _ _ _ _ => rfl) EvAs.nil m0) (var rfl rpC) (var rfl rqC)))) wo_ex
        (fun t σ3 H' => (∃ d, σ3 = [some v1, some (V.ref N), some (V.ref L), some (V.int (I : Int)), some y2, some v6, d]) ∧ ∃ us C, H' L = some (.lst us) ∧ Paired (rPt H') us C ∧ InvC (ambOf rows made) C (fun r => Z2 rows made I J r ∨ r ∈ (hcp (nms rows) (leOf rows) p q).take t))
        (fun H4 e4 => ⟨⟨_, rfl⟩, us5, C5, e4 L _ hus6, pmap ru5 fun _ _ r => up (R := rPt) (e6.trans e4) r, inv5.congr fun r => ⟨.inl, fun h => h.elim id fun h => by cases h⟩⟩) (fun Hk ek hko t σ3 H7 ht hinv3 e7 v8 H8 e8 ⟨r0, hr0, rr0⟩ => ?_) fun σ3 H7 hinv3 e7 => ?_
      · obtain ⟨⟨d2, rfl⟩, us7, C7, hus7, ru7, inv7⟩ := hinv3
        have hLk : Hk L = none := hko L _ wo_none hus6 rfl
        have hus8 := e8 L _ hus7
        have e18 : Ex H1 H8 := eHC.trans ((ek.trans e7).trans e8)
        have hr0p : Pt (nms rows) m r0 := ((mem_hcp ok.good.grid hpp hqp).mp (List.mem_of_getElem? hr0)).1
        have rL8 : rPts H8 (.ref L) C7 := ⟨L, us7, rfl, hus8, pmap ru7 fun _ _ r => up (R := rPt) e8 r⟩
        have hl7 : C7.length ≤ 8000 := am_len inv7 fun r h => by
          rcases h with (⟨i, j, _, _, h⟩ | ⟨j, _, h⟩) | h
          · exact ⟨i, j, h⟩
          · exact ⟨I, j, h⟩
          · exact ⟨I, J, p, q, hp, hq0, List.mem_of_mem_take h⟩
        have stp := inv7.step (r0 := r0)
        have stp : InvC (ambOf rows made) (if (!isIn r0 C7 && ambOf rows made r0) = true then C7 ++ [r0] else C7) (fun r => Z2 rows made I J r ∨ r ∈ (hcp (nms rows) (leOf rows) p q).take (t + 1)) := stp.congr fun r => by
          rw [List.take_add_one, hr0, List.mem_append]
          simp only [Option.toList_some, List.mem_singleton]
          exact or_assoc
        dsimp only
        refine Evl.s_if (Evl.et_and (Evl.et_test (notInD (R := rPt) (by decide) (var rfl rr0) (var rfl rL8))) fun _ => Evl.et_is (Evl.et_test (eqS (call_ (P := fun (i : TbI) => is rStr (told (valsOf i.rows i.made i.s))) ⟨rows, m, made, r0, hr0p, h1, h3, ok, mok.pts, mok.sorted, few⟩ (ea2 (R := rM K) (S := rPt) (var rfl (up (R := rM K) e18 r1H)) (var rfl rr0))) (const (by unfold sOk; decide +kernel)))) (told_amb rows made r0)) (fun hb H9 e9 => ?_) fun hb H9 e9 => ?_
        · rw [if_pos hb] at stp
          refine r_append (P := is rPt r0) (e9 L _ hus8) (Evl.ev_var rfl) (var rfl (up (R := rPt) e9 rr0)) (by have := plen ru7; omega) fun v5 H10 e10 r5 => ⟨⟨⟨_, rfl⟩, us7 ++ [v5], C7 ++ [r0], upd_same, ?_, stp⟩, Ex.mut (((e7.trans e8).trans e9).trans e10) hLk⟩
          have hus10 := e10 L _ (e9 L _ hus8)
          exact psnoc (pupd (R := rPt) hus10 (pmap ru7 fun _ _ r => up (R := rPt) ((e8.trans e9).trans e10) r)) (upT (R := rPt) (Tx.upd hus10 (fun _ k => by cases k) fun _ _ k => by cases k) r5)
        · rw [if_neg (by rw [hb]; decide)] at stp
          exact ⟨⟨⟨_, rfl⟩, us7, C7, e9 L _ hus8, pmap ru7 fun _ _ r => up (R := rPt) (e8.trans e9) r, stp⟩, (e7.trans e8).trans e9⟩
      · obtain ⟨⟨d2, rfl⟩, us7, C7, hus7, ru7, inv7⟩ := hinv3
        rw [List.take_length] at inv7
        refine ⟨⟨⟨_, _, rfl⟩, us7, C7, hus7, ru7, inv7.congr fun r => ?_⟩, eC.trans e7⟩
        constructor
        · rintro ((h | ⟨j, hj, h⟩) | h)
          · exact .inl h
          · exact .inr ⟨j, by omega, h⟩
          · exact .inr ⟨J, by omega, p, q, hp, hq0, h⟩
        · rintro (h | ⟨j, hj, h⟩)
          · exact .inl (.inl h)
          · by_cases ej : j = J
            · subst ej
              obtain ⟨a, b, ha, hb, hab⟩ := h
              rw [hp] at ha
              rw [hq0] at hb
              cases ha
              cases hb
              exact .inr hab
            · exact .inl (.inr ⟨j, by omega, h⟩)
    · obtain ⟨⟨c1, d1, rfl⟩, us5, C5, hus5, ru5, inv5⟩ := hinv2
      refine ⟨⟨⟨_, _, _, _, rfl⟩, us5, C5, hus5, ru5, inv5.congr fun r => ?_⟩, eB.trans e5⟩
      have hlt : ((kys made).take I).length = I := by rw [List.length_take]; omega
      rw [hlt]
      constructor
      · rintro (⟨i, j, hj, hi, h⟩ | ⟨j, hj, h⟩)
        · exact ⟨i, j, hj, by omega, h⟩
        · exact ⟨I, j, hj, by omega, h⟩
      · rintro ⟨i, j, hj, hi, h⟩
        by_cases ei : i = I
        · subst ei
          exact .inr ⟨j, hj, h⟩
        · exact .inl ⟨i, j, hj, by omega, h⟩
  · obtain ⟨⟨a0, b0, c0, d0, rfl⟩, us, C, hus, ru, inv⟩ := hinv
    refine r_retV (Evl.ev_var rfl) fun H4 e4 => hq _ _ ((e1.trans eh).trans e4) ⟨L, C, rfl, Evl.fresh_back e1 hLn, ⟨inv.nd, ⟨fun r => ?_⟩⟩, L, us, rfl, e4 L _ hus, pmap ru fun _ _ r => up (R := rPt) e4 r⟩
    rw [inv.mem]
    refine and_congr Iff.rfl ⟨fun ⟨i, j, hj, _, a, b, ha, hb, h⟩ => ⟨i, j, a, b, hj, ha, hb, h⟩, fun ⟨i, j, a, b, hj, ha, hb, h⟩ => ⟨i, j, hj, ?_, a, b, ha, hb, h⟩⟩
    exact (List.getElem?_eq_some_iff.mp ha).1
end
end FM

/-! ## FConf2 -/
set_option Elab.async false
set_option linter.all false
set_option maxRecDepth 100000
set_option maxHeartbeats 2000000
/-! What is told: the conflicts, and whether there are any. -/
namespace FM
open PySem PySem.Spec PyProof.Rows L2
open Evl (Ex EvT Ev)
/-- a call whose arguments stand for one of some things -/
theorem callX {σ : L2.St} {H : Hp} {tr : TA} {ι : Type} {A : ι → List V → Hp → Prop} {P : ι → Hp → V → Hp → Prop} {Pq : Hp → V → Hp → Prop} [Dn Pq] {E : XK} {T : ι → Prop} (h : EvAs tr σ H (fun vs H2 => ∃ i, T i ∧ A i vs H2)) (hp : ∀ i H1 v H2, T i → P i H1 v H2 → Pq H1 v H2) : EvP (tCall (spOf A P) [] E tr) σ H Pq := fun H1 a Q q =>
  h H1 a _ fun vs H2 e ⟨i, ti, hA⟩ => ⟨i, by rw [List.append_nil]; exact hA, fun v H3 e3 p => q v H3 (e.trans e3) (Dn.dn e (hp i H2 v H3 ti p))⟩
/-- the points that are ambiguous, none of them below another -/
abbrev unclear (rows : Rows Str) (m : Nat) (made : Made) : List (List Str) := (combos (nms rows) m).filter (ambOf rows made)
abbrev due (rows : Rows Str) (m : Nat) (made : Made) : List (List Str) := highs (leOf rows) (unclear rows m made)
section
variable {P : Program} {w : World} {K : PySem.W.Frag} {mg : Str → Option Value} {base : Heap}
abbrev sp_conf : Sp := spOf (fun (i : MtI) => a1 (rM K) (i.rows, i.m, i.made)) fun i => nw rPts (due i.rows i.m i.made)
abbrev sp_set : Sp := spOf (fun (i : MtI) => a1 (rM K) (i.rows, i.m, i.made)) fun i => is rBool (decide (unclear i.rows i.m i.made = []))
theorem gath_pt {i : MtI} {C : List (List Str)} (g : Gath i.rows i.made C) : ∀ p ∈ C, Pt (nms i.rows) i.m p := g.2.pt i.ok.good.grid i.mok.pts
theorem gath_len' {i : MtI} {C : List (List Str)} (g : Gath i.rows i.made C) : C.length ≤ 8000 := by
  have hlen : (nms i.rows).length ≤ 20 := by unfold nms; rw [List.length_map]; exact i.ok.len
  exact Nat.le_trans (nodup_le g.1 fun p hp => mem_combos.mpr (gath_pt g p hp)) (combos_le hlen i.h3)
theorem ok_conflicts (T : Txt K mg) (G_MethodTable_hierarchy : GMt P w K mg base "MethodTable" "hierarchy" 1 (sp_hier (K := K))) (G_highest : GFn P w K mg base "highest" 6 (sp_highest (K := K)))
    (G_ambiguous_commons : GFn P w K mg base "ambiguous_commons" 10 (sp_ac (K := K))) : GFn P w K mg base "conflicts" 11 (sp_conf (K := K)) := by
  obtain ⟨fd, F⟩ := T.d_conflicts
  have sc := (C8.fnScope_by (N := ["table"]) (P := ["table"]) (sc := defScope st_conflicts) (by kernel_rfl))
  refine gfn T.g_conflicts F sc (F.bindsN fun _ _ _ _ _ _ us hl => match us, hl with | [_], _ => rfl) (fun i vs H ⟨_, e, _⟩ => by rw [e]; rfl) ?_
  intro cdv A outer s H E i vs Q hr ⟨v1, e, r1⟩ hq
  have nd := sc.nd
  subst e
  refine ⟨_, (PSs.nox (pss_one (ps_ret (kcall G_highest hr (pa_cons (kmeth0 G_MethodTable_hierarchy hr (pv 0)) (pa_cons (kcall G_ambiguous_commons hr (pa_cons (pv 0) pa_nil)) pa_nil)))))), ?_⟩
  refine r_ret (P := nw rPts (due i.rows i.m i.made)) (callX (P := fun (i : OrI) => nw rPts (highs (leOf i.rows) (srt i.rows i.m i.ps))) (T := fun j => nw rPts (highs (leOf j.rows) (srt j.rows j.m j.ps)) = nw rPts (due i.rows i.m i.made)) ?_ fun j H1 v H2 e p => by rw [← e]; exact p) hq
  refine fun H1 e1 Q2 q2 => (mcall_ (P := fun (i : TbX) => is (rH K) i.1) (R := rMb K) (i.rows, i.m, i.made) (var rfl r1.1) (rMb_ob fun _ _ _ _ _ => rfl) EvAs.nil m0) H1 e1 _ fun v H2 e2 rv => ?_
  refine (call_ (P := fun (i : MtI) => someN (rLst rPt) (Gath i.rows i.made)) i (ea1 (R := rM K) (var rfl r1))) H2 (e1.trans e2) _ fun u H3 e3 ⟨a, C, ev, hn, g, rC⟩ => ?_
  subst ev
  refine q2 _ H3 (e2.trans e3) ⟨⟨i.rows, i.m, C, gath_pt g, i.h1, i.h3, i.ok, Nat.le_trans (gath_len' g) (by decide), g.1⟩, ?_, v, .ref a, rfl, up (R := rH K) e3 rv, rC⟩
  show nw rPts (highs (leOf i.rows) (srt i.rows i.m C)) = _
  rw [show highs (leOf i.rows) (srt i.rows i.m C) = due i.rows i.m i.made from due_eq i.ok.good.grid i.mok.pts g.2]
theorem ok_is_settled (T : Txt K mg) (G_ambiguous_commons : GFn P w K mg base "ambiguous_commons" 10 (sp_ac (K := K))) : GFn P w K mg base "is_settled" 11 (sp_set (K := K)) := by
  obtain ⟨fd, F⟩ := T.d_is_settled
  have sc := (C8.fnScope_by (N := ["table"]) (P := ["table"]) (sc := defScope st_is_settled) (by kernel_rfl))
  refine gfn T.g_is_settled F sc (F.bindsN fun _ _ _ _ _ _ us hl => match us, hl with | [_], _ => rfl) (fun i vs H ⟨_, e, _⟩ => by rw [e]; rfl) ?_
  intro cdv A outer s H E i vs Q hr ⟨v1, e, r1⟩ hq
  have nd := sc.nd
  have hu64 := u64 hr
  subst e
  refine ⟨_, (PSs.nox (pss_one (ps_ret (pe_cmpR (k_eqD K hu64) (kcall G_ambiguous_commons hr (pa_cons (pv 0) pa_nil)) (pe_lst pa_nil) (nomark _))))), ?_⟩
  refine r_ret (P := is rBool (decide (unclear i.rows i.m i.made = []))) (Ev.b ?_) hq
  intro H1 e1 Q1 q1
  refine (call_ (P := fun (i : MtI) => someN (rLst rPt) (Gath i.rows i.made)) i (ea1 (R := rM K) (var rfl r1))) H1 e1 _ fun u H3 e3 ⟨a, C, ev, hn, g, rC⟩ => ?_
  subst ev
  have z := eqD (K := K) (R := rPts) (σ := start ["table"] [v1]) (ta := tC (.ref a)) (by decide) (ev_is Evl.ev_c rC) (EvP.of_nw (lst_ (R := rPt) (xs := []) (tr := tNil) pa0 (by decide))) H3 (Ex.refl _) Q1
  have e : decide (C = []) = decide (unclear i.rows i.m i.made = []) := decide_eq_decide.mpr (settled_eq i.ok.good.grid i.mok.pts g.2)
  rw [e] at z
  exact z fun H4 e4 => q1 H4 (e3.trans e4)
end
end FM

/-! ## FPot -/
set_option Elab.async false
set_option linter.all false
set_option maxRecDepth 100000
set_option maxHeartbeats 2000000
/-! The pot of the law: a list of two ints, told by its bounds alone, so that a draw leaves it as it is told. -/
namespace FP
open PySem PySem.Spec PyProof.Rows L2
/-- two ints, none below nought, the second small -/
def PotIs (p : Addr) (h : Heap) : Prop := ∃ (a b : Int) (ta tb : Tok) (n : Nat), h.get? p = some { cls := .type "list", data := .seq #[.int a ta, .int b tb] n } ∧ 0 ≤ a ∧ 0 ≤ b ∧ b < 2147483647
def potO (p : Addr) : HO := .ext (PotIs p)
theorem potO_ok {P : Program} {w : World} {H : Hp} {h : Heap} {p : Addr} (x : PotIs p h) : ObjOk P w H h p (potO p) :=
  ⟨x, let ⟨_, _, _, _, _, e, _⟩ := x; ⟨_, e⟩, fun h1 h2 ⟨a, b, ta, tb, n, e, r⟩ k => ⟨a, b, ta, tb, n, k _ e, r⟩⟩
theorem pot_at {X : Cx} {pins : List (Addr × Obj)} {σ : L2.St} {H : Hp} {s : Shared} {p : Addr} (I : Inv X pins σ H s) (h : H p = some (potO p)) : PotIs p s.heap :=
  (show ObjOk X.prog X.w H s.heap p (potO p) from I.hok p _ h).1
theorem upd_id {H : Hp} {p : Addr} {o : HO} (h : H p = some o) : upd H p o = H := by
  funext b
  by_cases e : b = p
  · rw [e, upd_same, h]
  · rw [upd_ne e]
/-- one of the two ints -/
def rIxPot : R2 := fun x y H Q => ∃ (p : Addr) (i : Nat), x = .ref p ∧ H p = some (potO p) ∧ y = .int (i : Int) ∧ i < 2 ∧ ∀ z : Int, 0 ≤ z → (i = 1 → z < 2147483647) → Q (.int z) H
theorem ix_pot {X : Cx} : IxR X rIxPot := by
  intro value slice pins s σ H x y v u Q I rx ry h hs
  obtain ⟨p, i, rfl, hp, rfl, hi, q⟩ := h
  cases rx
  obtain ⟨t, rfl⟩ := ry
  obtain ⟨a, b, ta, tb, n, e, h0, h1, h2⟩ := pot_at I hp
  have hl : s.heap.IsList p #[.int a ta, .int b tb] := ⟨_, e, rfl, n, rfl⟩
  match i, hi with
  | 0, _ => exact item_listR hl (Int.le_refl 0) (by decide) rfl ⟨.int a, H, I, ⟨ta, rfl⟩, q a h0 fun z => by cases z⟩ hs
  | 1, _ => exact item_listR hl (by decide) (by decide) rfl ⟨.int b, H, I, ⟨tb, rfl⟩, q b h1 fun _ => h2⟩ hs
/-- .. written -/
def rSetPot : V → V → V → Hp → (Hp → Prop) → Prop := fun o i v H Q => ∃ (p : Addr) (k : Nat) (z : Int), o = .ref p ∧ i = .int (k : Int) ∧ k < 2 ∧ H p = some (potO p) ∧ v = .int z ∧ 0 ≤ z ∧ (k = 1 → z < 2147483647) ∧ Q H
theorem set_pot {X : Cx} : PSet X rSetPot := by
  intro pins s σ H o i v ov iv u Q I ro ri rv h
  obtain ⟨p, k, z, rfl, rfl, hk, hp, rfl, z0, z1, q⟩ := h
  cases ro
  obtain ⟨t, rfl⟩ := ri
  obtain ⟨tz, rfl⟩ := rv
  obtain ⟨a, b, ta, tb, n, e, h0, h1, h2⟩ := pot_at I hp
  match k, hk with
  | 0, _ =>
    refine PySem.W.ki_setAt (items := #[.int a ta, .int b tb]) (n := n) e (by decide) (by decide) (by show (_ : Int) < ((2 : Nat) : Int); decide) ?_
    have e2 : (s.heap.update p (Obj.mapSeq (·.setIfInBounds (0 : Int).toNat (.int z tz)))).get? p = some { cls := .type "list", data := .seq #[.int z tz, .int b tb] n } := by
      rw [Heap.get?_update_self _ e (by rfl)]
      rfl
    have J : Inv X pins σ (upd H p (potO p)) { s with heap := s.heap.update p (Obj.mapSeq (·.setIfInBounds (0 : Int).toNat (.int z tz))) } :=
      I.write (x := p) (e := p) (t' := s.toks) (by rw [hp]; trivial) (.inl rfl) (fun b u hb q => (Heap.get?_update_other _ _ (Ne.symm hb)).trans q) ⟨_, e2⟩ (potO_ok ⟨z, b, tz, tb, n, e2, z0, h1, h2⟩)
    rw [upd_id hp] at J
    exact ⟨H, J, q⟩
  | 1, _ =>
    refine PySem.W.ki_setAt (items := #[.int a ta, .int b tb]) (n := n) e (by decide) (by decide) (by show (_ : Int) < ((2 : Nat) : Int); decide) ?_
    have e2 : (s.heap.update p (Obj.mapSeq (·.setIfInBounds (1 : Int).toNat (.int z tz)))).get? p = some { cls := .type "list", data := .seq #[.int a ta, .int z tz] n } := by
      rw [Heap.get?_update_self _ e (by rfl)]
      rfl
    have J : Inv X pins σ (upd H p (potO p)) { s with heap := s.heap.update p (Obj.mapSeq (·.setIfInBounds (1 : Int).toNat (.int z tz))) } :=
      I.write (x := p) (e := p) (t' := s.toks) (by rw [hp]; trivial) (.inl rfl) (fun b u hb q => (Heap.get?_update_other _ _ (Ne.symm hb)).trans q) ⟨_, e2⟩ (potO_ok ⟨a, z, ta, tz, n, e2, h0, z0, z1 rfl⟩)
    rw [upd_id hp] at J
    exact ⟨H, J, q⟩
/-- a pot is laid -/
def tPot (t : TA) : TE := fun σ H Q => t σ H fun xs H1 => ∃ a b : Int, xs = [.int a, .int b] ∧ 0 ≤ a ∧ 0 ≤ b ∧ b < 2147483647 ∧ ∀ p, H1 p = none → Q (.ref p) (upd H1 p (potO p))
theorem pe_pot {X : Cx} {es : List Expr} {t : TA} {pos : Pos} (h : PA X es t) : PE X (.List es pos) (tPot t) := by
  refine ⟨fun pins s σ H Q I hq => wpAny_List_spliced (thn (h.run pos pins s σ H _ I hq) fun us s1 ⟨xs, H1, I1, r, a, b, ex, h0, h1, h2, q⟩ => ?_)⟩
  subst ex
  obtain ⟨u, w', rfl, ⟨t1, rfl⟩, ⟨t2, rfl⟩⟩ := vals2 r
  refine ⟨by show 2 ≤ sizeLine; decide, ?_⟩
  have hf : H1 s1.heap.objs.size = none := I1.hok.fresh (Nat.le_refl _)
  exact ⟨.ref s1.heap.objs.size, upd H1 s1.heap.objs.size (potO s1.heap.objs.size), I1.laid (t' := s1.toks) (fun b u e => Heap.get?_push_of_some _ e) (Nat.le_refl _) (potO_ok ⟨a, b, t1, t2, 0, Heap.get?_push_size _ rfl, h0, h1, h2⟩), rfl, q _ hf⟩
end FP
namespace FM
open PySem PySem.Spec PyProof.Rows L2
open Evl (Ex EvT Ev)
theorem not_pylong {i : Int} {n : Nat} (h : 0 < n) (h2 : n ≤ 100000) : Builtin.divisionGoesByPylong i (n : Int) = false := by
  have k : ¬ ((if (n : Int) == 0 then 0 else (n : Int).natAbs.log2 / 30 + 1) > 300) := by
    split
    · omega
    · have : n.log2 < 17 := (Nat.log2_lt (by omega)).mpr (by omega)
      rw [Int.natAbs_natCast]
      omega
  show (decide ((if (n : Int) == 0 then 0 else (n : Int).natAbs.log2 / 30 + 1) > 300) && _) = false
  rw [decide_eq_false k]
  rfl
theorem toN {y : Int} {n : Nat} (h0 : 0 ≤ y) (h1 : y < (n : Int)) : ∃ d : Nat, d < n ∧ V.int y = .int (d : Int) := ⟨y.toNat, by omega, by rw [Int.toNat_of_nonneg h0]⟩
/-- the pot -/
def rPot : Rdr Unit := fun H v _ => ∃ p, v = .ref p ∧ H p = some (FP.potO p)
instance : Mono rPot := ⟨fun e ⟨p, h1, h2⟩ => ⟨p, h1, e p _ h2⟩⟩
/-- a number below n -/
def isLt (n : Nat) : Hp → V → Hp → Prop := fun _ v _ => ∃ d : Nat, d < n ∧ v = .int (d : Int)
instance {n : Nat} : Dn (isLt n) := ⟨fun _ h => h⟩
section
variable {P : Program} {w : World} {K : PySem.W.Frag} {mg : Str → Option Value} {base : Heap}
abbrev sp__law_draw : Sp := spOf (fun (n : {n : Nat // 0 < n ∧ n ≤ 100000}) => a2 rPot rInt () (n.1 : Int)) fun n => isLt n.1
theorem ok__law_draw (T : Txt K mg) : GFn P w K mg base "_law_draw" 1 sp__law_draw := by
  obtain ⟨fd, F⟩ := T.d__law_draw
  have sc := (C8.fnScope_by (N := ["_law_pot_here", "_law_many", "_law_digit"]) (P := ["_law_pot_here", "_law_many"]) (sc := defScope st__law_draw) (by kernel_rfl))
  refine gfn T.g__law_draw F sc (F.bindsN fun _ _ _ _ _ _ us hl => match us, hl with | [_, _], _ => rfl) (fun i vs H ⟨_, _, e, _⟩ => by rw [e]; rfl) ?_
  intro cdv A outer s H E ⟨n, hn, hn2⟩ vs Q hr ⟨v1, v2, e, ⟨p, e1, hp⟩, r2⟩ hq
  have nd := sc.nd
  have r2 : v2 = .int (n : Int) := r2
  subst e e1 r2
  refine ⟨_, (PSs.nox (pss_cons (ps_if (pt_cmpR op_gt (pe_ix FP.ix_pot (pv 0) pe_int (by intro _ _; rfl)) pe_int (nomark _)) (pss_cons (ps_asg (pe_callB call_divmodW (by rfl) T.divmod (by decide +kernel) (pa_cons (pe_ix FP.ix_pot (pv 0) pe_int (by intro _ _; rfl)) (pa_cons (pv 1) pa_nil))) (k_gtup K (n := 2) (pgs_cons (pg_sub (pv 0) pe_int FP.set_pot) (pgs_cons (pg_name (i := 2) nd (by rfl) (by first | exact Or.inl rfl | exact Or.inr rfl)) pgs_nil))))
      (pss_one (ps_ret (pv 2)))) pss_nil)
      (pss_cons (ps_asg (pe_op op_mod (pe_op op_add (pe_op op_mulW (pe_ix FP.ix_pot (pv 0) pe_int (by intro _ _; rfl)) pe_int) pe_int) pe_int) (pg_sub (pv 0) pe_int FP.set_pot))
      (pss_one (ps_ret (pe_op op_mod (pe_op op_fdivW (pe_op op_mod (pe_op op_mulW (pe_ix FP.ix_pot (pv 0) pe_int (by intro _ _; rfl)) (pe_ix FP.ix_pot (pv 0) pe_int (by intro _ _; rfl))) pe_int) pe_int) (pv 1))))))), ?_⟩
  refine ⟨.ref p, rfl, p, 0, rfl, hp, rfl, by decide, fun z hz _ => ⟨z, 0, rfl, rfl, _, rfl, ?_⟩⟩
  dsimp only
  by_cases hz0 : 0 < z
  · rw [if_pos (decide_eq_true hz0)]
    refine ⟨.ref p, rfl, p, 0, rfl, hp, rfl, by decide, fun z2 hz2 _ => ⟨.int (n : Int), rfl, z2, (n : Int), rfl, ⟨by omega, not_pylong hn hn2⟩, fun q hqn => ?_⟩⟩
    have nqp : p ≠ q := fun e => by rw [e, hqn] at hp; cases hp
    have hm0 : 0 ≤ z2 % (n : Int) := Int.emod_nonneg _ (by omega)
    have hm1 : z2 % (n : Int) < (n : Int) := Int.emod_lt_of_pos _ (by omega)
    refine ⟨q, _, rfl, .inl (.inl upd_same), rfl, _, _, rfl, .ref p, rfl, p, 0, z2 / (n : Int), rfl, rfl, by decide, by rw [upd_ne nqp]; exact hp, rfl, Int.ediv_nonneg hz2 (by omega), (fun h => absurd h (by decide)), _, _, rfl, rfl, ?_⟩
    exact ⟨_, rfl, hq _ _ (Ex.new hqn) (toN hm0 hm1)⟩
  · rw [if_neg (fun h => hz0 (of_decide_eq_true h))]
    refine ⟨.ref p, rfl, p, 1, rfl, hp, rfl, by decide, fun b hb hb1 => ?_⟩
    have hb1 := hb1 rfl
    refine ⟨b, 39373, rfl, rfl, wide_mul (a := 31) (b := 16) (by omega) (by decide) (by decide) (by decide) (by decide), _, 12227, rfl, rfl, _, 2147483629, rfl, rfl, (show (0 : Int) < 2147483629 by decide), ?_⟩
    have k0 : 0 ≤ (b * 39373 + 12227) % 2147483629 := Int.emod_nonneg _ (by decide)
    have k1 : (b * 39373 + 12227) % 2147483629 < 2147483629 := Int.emod_lt_of_pos _ (by decide)
    refine ⟨.ref p, rfl, p, 1, _, rfl, rfl, by decide, hp, rfl, k0, fun _ => by omega, ?_⟩
    refine ⟨.ref p, rfl, p, 1, rfl, hp, rfl, by decide, fun c hc hc1 => ⟨.ref p, rfl, p, 1, rfl, hp, rfl, by decide, fun c2 hc2 hc21 => ?_⟩⟩
    have hc1 := hc1 rfl
    have hc21 := hc21 rfl
    refine ⟨c, c2, rfl, rfl, wide_mul (a := 31) (b := 31) (by omega) (by omega) (by decide) (by decide) (by decide), _, 2147483563, rfl, rfl, (show (0 : Int) < 2147483563 by decide), _, 13, rfl, rfl, ⟨by decide, by decide⟩, .int (n : Int), rfl, _, (n : Int), rfl, rfl, by omega, ?_⟩
    have hm0 : 0 ≤ (c * c2 % 2147483563 / 13) % (n : Int) := Int.emod_nonneg _ (by omega)
    have hm1 : (c * c2 % 2147483563 / 13) % (n : Int) < (n : Int) := Int.emod_lt_of_pos _ (by omega)
    exact hq _ _ (Ex.refl _) (toN hm0 hm1)
end
end FM

/-! ## FDraw -/
set_option Elab.async false
set_option linter.all false
set_option maxRecDepth 100000
set_option maxHeartbeats 2000000
/-! What the law draws: a pot, a mixed list, names. -/
namespace FM
open PySem PySem.Spec PyProof.Rows L2
open Evl (Ex EvT Ev)
/-- the script: a list of numbers that nobody writes -/
def rScr (K : PySem.W.Frag) : Rdr (List Int) := fun H v xs => ∃ a, v = .ref a ∧ SqL K H a (xs.map V.int)
instance {K : PySem.W.Frag} : Mono (rScr K) := ⟨fun e ⟨a, ev, h⟩ => ⟨a, ev, Evl.ex_l e h⟩⟩
abbrev isInt_ : Hp → V → Hp → Prop := fun _ v _ => ∃ z : Int, v = .int z
instance : Dn isInt_ := ⟨fun _ h => h⟩
section
variable {σ : L2.St} {H : Hp} {te tf : TE} {tr : TA} {i j : Int}
theorem len_scr {K : PySem.W.Frag} {xs : List Int} (h : EvP te σ H (is (rScr K) xs)) : Ev (tCB (qLen K) (tCons te tNil)) σ H (.int (xs.length : Nat)) := fun H1 e Q q =>
  h H1 e _ fun v H2 e2 ⟨a, ev, r⟩ => ⟨v, xs.length, rfl, by subst ev; exact .inl ⟨xs.map V.int, r, (List.length_map _).symm⟩, q H2 e2⟩
theorem ix_scr {K : PySem.W.Frag} {xs : List Int} {k : Nat} {z : Int} (h : EvP te σ H (is (rScr K) xs)) (hi : Ev tf σ H (.int (k : Nat))) (hz : xs[k]? = some z) : Ev (tOp (rIxL K) te tf) σ H (.int z) := fun H1 e Q q =>
  h H1 e _ fun v H2 e2 ⟨a, ev, r⟩ => hi H2 (e.trans e2) _ fun H3 e3 => by
    subst ev
    have hk : k < xs.length := (List.getElem?_eq_some_iff.mp hz).1
    exact ⟨a, xs.map V.int, (k : Nat), .int z, rfl, rfl, Evl.ex_l e3 r, by rw [atI_nat (by rw [List.length_map]; exact hk), List.getElem?_map, hz]; rfl, q H3 (e2.trans e3)⟩
theorem rv_I {C : Int → Int → Prop} {g : Int → Int → V} (h : C i j) : Evl.RV (rI C g) (.int i) (.int j) H (g i j) := fun H1 _ _ q => ⟨i, j, rfl, rfl, h, q H1 (Ex.refl H1)⟩
theorem abs_ (h : Ev te σ H (.int i)) : Ev (tCB (fun xs H Q => ∃ i, xs = [.int i] ∧ Q (.int (if i < 0 then -i else i)) H) (tCons te tNil)) σ H (.int (if i < 0 then -i else i)) := fun H1 e Q q => h H1 e _ fun H2 e2 => ⟨i, rfl, q H2 e2⟩
theorem max_ (h : Ev te σ H (.int i)) (h2 : Ev tf σ H (.int j)) : Ev (tCB (fun xs H Q => ∃ i j, xs = [.int i, .int j] ∧ Q (.int (if j > i then j else i)) H) (tCons te (tCons tf tNil))) σ H (.int (if j > i then j else i)) := fun H1 e Q q => h H1 e _ fun H2 e2 => h2 H2 (e.trans e2) _ fun H3 e3 => ⟨i, j, rfl, q H3 (e2.trans e3)⟩
theorem min_ (h : Ev te σ H (.int i)) (h2 : Ev tf σ H (.int j)) : Ev (tCB (fun xs H Q => ∃ i j, xs = [.int i, .int j] ∧ Q (.int (if j < i then j else i)) H) (tCons te (tCons tf tNil))) σ H (.int (if j < i then j else i)) := fun H1 e Q q => h H1 e _ fun H2 e2 => h2 H2 (e.trans e2) _ fun H3 e3 => ⟨i, j, rfl, q H3 (e2.trans e3)⟩
theorem pot_ (h1 : Ev te σ H (.int i)) (h2 : Ev tf σ H (.int j)) (i0 : 0 ≤ i) (j0 : 0 ≤ j) (j1 : j < 2147483647) : EvP (FP.tPot (tCons te (tCons tf tNil))) σ H (nw rPot ()) := fun H1 e Q q =>
  h1 H1 e _ fun H2 e2 => h2 H2 (e.trans e2) _ fun H3 e3 => ⟨i, j, rfl, i0, j0, j1, fun p hp => q _ _ ((e2.trans e3).trans (Ex.new hp)) ⟨p, rfl, Evl.fresh_back (e2.trans e3) hp, p, rfl, upd_same⟩⟩
end
section
variable {P : Program} {w : World} {K : PySem.W.Frag} {mg : Str → Option Value} {base : Heap}
abbrev sp__law_pot : Sp := spOf (fun (i : {i : List Int × Nat // i.2 ≤ 3}) => a2 (rScr K) rInt i.1.1 (i.1.2 : Int)) fun _ => nw rPot ()
theorem ok__law_pot (T : Txt K mg) : GFn P w K mg base "_law_pot" 1 (sp__law_pot (K := K)) := by
  obtain ⟨fd, F⟩ := T.d__law_pot
  have sc := (C8.fnScope_by (N := ["_law_script", "_law_k", "_law_cell"]) (P := ["_law_script", "_law_k"]) (sc := defScope st__law_pot) (by kernel_rfl))
  refine gfn T.g__law_pot F sc (F.bindsN fun _ _ _ _ _ _ us hl => match us, hl with | [_, _], _ => rfl) (fun i vs H ⟨_, _, e, _⟩ => by rw [e]; rfl) ?_
  intro cdv A outer s H E ⟨⟨xs, k⟩, hk⟩ vs Q hr ⟨v1, v2, e, r1, r2⟩ hq
  have nd := sc.nd
  have r2 : v2 = .int (k : Int) := r2
  subst e r2
  refine ⟨_, (PSs.nox (pss_cons (ps_set (i := 2) nd (by rfl) (by first | exact Or.inl rfl | exact Or.inr rfl) (pe_ifExp (pt_cmpR op_lt (pv 1) (pe_callB (k_len K) (by rfl) T.len (by decide +kernel) (pa_cons (pv 0) pa_nil)) (nomark _)) (pe_ix (k_ixL K) (pv 0) (pv 1) (by intro _ _; rfl)) pe_int))
      (pss_one (ps_ret (FP.pe_pot (pa_cons (pe_callB (call_max2 (by rfl)) (by rfl) T.max (by decide +kernel) (pa_cons pe_int (pa_cons (pe_op op_sub (pe_callB call_abs (by rfl) T.abs (by decide +kernel) (pa_cons (pv 2) pa_nil)) (pe_op op_pow pe_int pe_int)) pa_nil))) (pa_cons (pe_op op_mod (pe_op op_add (pe_op op_add (pe_op op_mulW (pe_op op_mod (pe_callB call_abs (by rfl) T.abs (by decide +kernel) (pa_cons (pv 2) pa_nil)) pe_int) pe_int) (pe_op op_mulW pe_int (pv 1))) pe_int) pe_int) pa_nil))))))), ?_⟩
  refine r_set (P := isInt_) (if_ (b := decide ((k : Int) < (xs.length : Nat))) (Evl.et_test (Evl.ev_op (Evl.ev_var rfl) (len_scr (var (R := rScr K) rfl r1)) Evl.rv_I0)) (fun h => ?_) fun _ => .of_ev Evl.ev_c fun _ _ _ _ => ⟨0, rfl⟩) fun v3 H1 e1 ⟨c, ev⟩ => ?_
  · have h := of_decide_eq_true h
    exact .of_ev (ix_scr (z := xs[k]'(by omega)) (var (R := rScr K) rfl r1) (Evl.ev_var rfl) (List.getElem?_eq_getElem _)) fun _ _ _ _ => ⟨_, rfl⟩
  · subst ev
    have hc : Ev (tVar 2) [some v1, some (V.int (k : Int)), some (V.int c)] H1 (.int c) := Evl.ev_var rfl
    refine r_ret (P := nw rPot ()) (pot_ (max_ Evl.ev_c (Evl.ev_op (abs_ hc) (Evl.ev_op Evl.ev_c Evl.ev_c (rv_I ⟨by decide, by decide, by decide⟩)) Evl.rv_I0))
      (Evl.ev_op (Evl.ev_op (Evl.ev_op (Evl.ev_op (Evl.ev_op (abs_ hc) Evl.ev_c (rv_I (show (0 : Int) < 2147483587 by decide))) Evl.ev_c (rv_I ?_)) (Evl.ev_op Evl.ev_c (Evl.ev_var rfl) (rv_I ?_)) Evl.rv_I0) Evl.ev_c Evl.rv_I0) Evl.ev_c (rv_I (show (0 : Int) < 2147483647 by decide))) ?_ (Int.emod_nonneg _ (by decide)) (Int.emod_lt_of_pos _ (by decide))) fun v H2 e2 z => hq v H2 (e1.trans e2) (Dn.dn e1 z)
    · have h0 : 0 ≤ (if c < 0 then -c else c) % 2147483587 := Int.emod_nonneg _ (by decide)
      have h1 : (if c < 0 then -c else c) % 2147483587 < 2147483587 := Int.emod_lt_of_pos _ (by decide)
      exact wide_mul (a := 31) (b := 16) (by omega) (by decide) (by decide) (by decide) (by decide)
    · exact wide_mul (a := 16) (b := 2) (by decide) (by have hk : k ≤ 3 := hk; omega) (by decide) (by decide) (by decide)
    · split <;> omega
end
end FM

/-! ## FMix -/
set_option Elab.async false
set_option linter.all false
set_option maxRecDepth 100000
set_option maxHeartbeats 2000000
/-! A mixed list: the same items in some order. -/
namespace FM
open PySem PySem.Spec PyProof.Rows L2
open Evl (Ex EvT Ev)
theorem erase_map {α β : Type} (f : α → β) : ∀ (l : List α) (k : Nat), (l.map f).eraseIdx k = (l.eraseIdx k).map f
  | [], _ => rfl
  | _ :: _, 0 => rfl
  | x :: l, k + 1 => by
    show f x :: (l.map f).eraseIdx k = f x :: (l.eraseIdx k).map f
    rw [erase_map f l k]
theorem erase_perm {α : Type} : ∀ (l : List α) (k : Nat) (h : k < l.length), (l[k] :: l.eraseIdx k).Perm l
  | x :: l, 0, _ => .refl _
  | x :: l, k + 1, h => by
    have h' : k < l.length := by simpa using h
    have ih := erase_perm l k h'
    exact (List.Perm.swap x l[k] (l.eraseIdx k)).trans (.cons x ih)
theorem ev_strs {H : Hp} : ∀ {vs : List V} {xs : List Str}, Paired (rStr H) vs xs → vs = xs.map V.str ∧ ∀ x ∈ xs, sOk x
  | _, _, .nil => ⟨rfl, fun _ h => by cases h⟩
  | _, _, .cons h t => by
    obtain ⟨e, k⟩ := ev_strs t
    refine ⟨by rw [h.1, e]; rfl, fun x hx => ?_⟩
    rcases List.mem_cons.mp hx with rfl | hx
    · exact h.2
    · exact k x hx
theorem strs_ev {H : Hp} : ∀ {xs : List Str}, (∀ x ∈ xs, sOk x) → Paired (rStr H) (xs.map V.str) xs
  | [], _ => .nil
  | x :: xs, k => .cons ⟨rfl, k x (by simp)⟩ (strs_ev fun y hy => k y (by simp [hy]))
section
variable {P : Program} {w : World} {K : PySem.W.Frag} {mg : Str → Option Value} {base : Heap}
abbrev sp__law_mixed : Sp := spOf (fun (i : {xs : List Str // xs.length ≤ 20}) => a2 rPot (rLst rStr) () i.1) fun i => someN (rLst rStr) (fun ys => ys.Perm i.1)
theorem ok__law_mixed (T : Txt K mg) (G__law_draw : GFn P w K mg base "_law_draw" 1 sp__law_draw) : GFn P w K mg base "_law_mixed" 2 sp__law_mixed := by
  obtain ⟨fd, F⟩ := T.d__law_mixed
  have sc := (C8.fnScope_by (N := ["_law_pot_here", "_law_some", "_law_left", "_law_turn"]) (P := ["_law_pot_here", "_law_some"]) (sc := defScope st__law_mixed) (by kernel_rfl))
  refine gfn T.g__law_mixed F sc (F.bindsN fun _ _ _ _ _ _ us hl => match us, hl with | [_, _], _ => rfl) (fun i vs H ⟨_, _, e, _⟩ => by rw [e]; rfl) ?_
  intro cdv A outer s H E ⟨xs, hx⟩ vs Q hr ⟨v1, v2, e, r1, r2⟩ hq
  have nd := sc.nd
  subst e
  refine ⟨_, (PSs.nox (pss_cons (ps_set (i := 2) nd (by rfl) (by first | exact Or.inl rfl | exact Or.inr rfl) (pe_callTy (k_list_of K) (by rfl) T.list (by decide +kernel) (pa_cons (pv 1) pa_nil)))
      (pss_one (ps_ret (pe_lc (own := [("_law_turn", 3)]) (by rfl) nd (k_range T.range (pa_cons (pe_callB (k_len K) (by rfl) T.len (by decide +kernel) (pa_cons (pv 1) pa_nil)) pa_nil)) (blkOk_by (by kernel_rfl)) (fun _ _ _ _ _ => (pg_name (i := 3) nd (by rfl) (by first | exact Or.inl rfl | exact Or.inr rfl))) (fun _ _ _ _ _ => pts_nil) (fun _ _ _ _ _ => (k_bm K PySem.F.plainAttrs_list PySem.F.slot_list_pop PySem.F.type_list_pop mt_popAt (pv 2) (pa_cons (kcall G__law_draw hr (pa_cons (pv 0) (pa_cons (pe_callB (k_len K) (by rfl) T.len (by decide +kernel) (pa_cons (pv 2) pa_nil)) pa_nil))) pa_nil)))))))), ?_⟩
  have r2 : rLst rStr H v2 xs := r2
  have hx : xs.length ≤ 20 := hx
  refine r_set (list_l (R := rStr) (var rfl r2)) fun v3 H1 e1 ⟨L, ev, hL0, L2, us, eL, hL, rL⟩ => ?_
  subst ev
  cases eL
  obtain ⟨eus, oks⟩ := ev_strs rL
  subst eus
  unfold tRet tLc
  refine (j_range (H := H) (m := ((xs.length : Nat) : Int)) (len_l (R := rStr) (var rfl r2)) (by omega) (by omega)) H1 e1 _ fun J H2 Hn e2 en en2 ho wk => ?_
  intro D hD
  have hn : ((xs.length : Nat) : Int).toNat = xs.length := rfl
  rw [hn] at wk
  have hL2 := e2 L _ hL
  have hLn : Hn L = none := by
    cases q : Hn L with
    | none => rfl
    | some u =>
      rcases ho L u q with z | z | ⟨zs, z⟩
      · rw [hL0] at z; cases z
      · rw [hL] at z; cases z
      · have := en2 L u q
        rw [hL2] at this
        cases this
        rcases z with z | ⟨ob, z⟩ <;> cases z
  have hDn : Hn D = none := Evl.fresh_back en2 hD
  have nLD : L ≠ D := fun z => by rw [z, hD] at hL2; cases hL2
  let Wd : Nat → Hp → Prop := fun i H' => Ex Hn H' ∧ ∃ ls ys : List Str, H' L = some (.lst (ls.map V.str)) ∧ H' D = some (.lst (ys.map V.str)) ∧ ys.length = i ∧ (ys ++ ls).Perm xs
  refine ⟨fun i m H' => m = xs.length - i ∧ i ≤ xs.length ∧ Wd i H', ⟨xs.length, rfl, Nat.zero_le _, en2.trans (Ex.new hD), xs, [], by rw [upd_ne nLD]; exact hL2, upd_same, rfl, by simp⟩, ?_⟩
  rintro i m H3 ⟨rfl, hin, e3, ls, ys, hls, hys, hyl, hp⟩
  have hpl := hp.length_eq
  rw [List.length_append] at hpl
  by_cases hlt : i < xs.length
  · refine .inr ⟨wk.go i H3 hlt e3, fun H' => Wd (i + 1) H', fun H' p => ⟨xs.length - (i + 1), by omega, rfl, hlt, p⟩, fun x H4 y => ?_⟩
    obtain ⟨e4, _⟩ := wk.yld i H3 x H4 hlt e3 y
    have hls4 := e4 L _ hls
    have rls4 : rLst rStr H4 (.ref L) ls := ⟨L, _, rfl, hls4, strs_ev fun z hz => oks z (hp.subset (List.mem_append_right _ hz))⟩
    refine ⟨rfl, ?_⟩
    show tBM K "list" rPopAt (tVar 2) (tCons (tCall sp__law_draw [] E0 (tCons (tVar 0) (tCons (tCB (qLen K) (tCons (tVar 2) tNil)) tNil))) tNil) [some v1, some v2, some (V.ref L), some x] H4 _
    refine ⟨.ref L, rfl, .inl ⟨rfl, _, .inl (.inl hls4)⟩, ?_⟩
    refine (call_ (P := fun (n : {n : Nat // 0 < n ∧ n ≤ 100000}) => isLt n.1) ⟨ls.length, by omega, by omega⟩ (ea2 (R := rPot) (S := rInt) (var rfl (up (R := rPot) ((en.trans e3).trans e4) r1)) (Ev.i (len_l (R := rStr) (var rfl rls4))))) H4 (Ex.refl _) _ fun v H5 e5 ⟨d, hd, ev⟩ => ?_
    subst ev
    have hls5 := e5 L _ hls4
    have hys5 := e5 D _ (e4 D _ hys)
    have hd : d < ls.length := hd
    refine ⟨L, ls.map V.str, (d : Int), d, .str ls[d], rfl, rfl, hls5, by omega, by omega, ?_, by rw [List.getElem?_map, List.getElem?_eq_getElem hd]; rfl, ?_⟩
    · rw [List.length_map]
      unfold seqIndex?
      simp
      omega
    · refine ⟨ys.map V.str, by rw [upd_ne (Ne.symm nLD)]; exact hys5, by rw [List.length_map]; exact Evl.sz_lt (by omega), Ex.mut (Ex.mut ((e3.trans e4).trans e5) hLn) hDn, ls.eraseIdx d, ys ++ [ls[d]], ?_, ?_, by rw [List.length_append, hyl]; rfl, ?_⟩
      · rw [upd_ne nLD, upd_same, erase_map]
      · rw [upd_same, List.map_append]
        rfl
      · rw [List.append_assoc]
        exact ((List.Perm.append_left ys (erase_perm ls d hd))).trans hp
  · have ei : i = xs.length := by omega
    have hl0 : ls = [] := List.eq_nil_of_length_eq_zero (by omega)
    subst hl0
    rw [List.append_nil] at hp
    exact .inl ⟨by rw [ei]; exact wk.stop H3 e3, hq _ _ (en.trans e3) ⟨D, ys, rfl, Evl.fresh_back en hDn, hp, D, _, rfl, hys, strs_ev fun z hz => oks z (hp.subset hz)⟩⟩
end
end FM

/-! ## FName -/
set_option Elab.async false
set_option linter.all false
set_option maxRecDepth 100000
set_option maxHeartbeats 2000000
/-! Names are drawn. -/
namespace FM
open PySem PySem.Spec PyProof.Rows L2
open Evl (Ex EvT Ev)
section
variable {K : PySem.W.Frag} {σ : L2.St} {H : Hp} {te ta ti : TE} {tt : TT} {g : TG} {vs : List Nat} {β : Type} {R : Rdr β} {xs : List β} {Pq P' : Hp → V → Hp → Prop}
/-- a comprehension over range of something not known -/
theorem lcBind {tx : TE} [Dn P'] (h : EvP te σ H Pq) (k : ∀ H1 v H2, Ex H H2 → Pq H1 v H2 → EvP (tLc (iRng1 (tCons (tC v) tNil)) g tt tx vs) σ H2 P') : EvP (tLc (iRng1 (tCons te tNil)) g tt tx vs) σ H P' := fun H1 e Q q =>
  h H1 e _ fun v H2 e2 p => k H1 v H2 (e.trans e2) p H2 (Ex.refl _) Q fun u H3 e3 z => q u H3 (e2.trans e3) (Dn.dn e2 z)
/-- one of the items -/
theorem pick [Mono R] (h : EvP ta σ H (is (rLst R) xs)) (hi : EvP ti σ H (isLt xs.length)) : EvP (tOp (rIxL K) ta ti) σ H (some_ R (· ∈ xs)) := fun H1 e Q q =>
  h H1 e _ fun v H2 e2 r => hi H2 (e.trans e2) _ fun u H3 e3 ⟨d, hd, eu⟩ => by
    subst eu
    have r3 := up (R := rLst R) e3 r
    exact (ixL (K := K) (R := R) (σ := σ) (te := tC v) (ti := tC (.int (d : Int))) (j := d) (x := xs[d]) (ev_is Evl.ev_c r3) Evl.ev_c (List.getElem?_eq_getElem hd)) H3 (Ex.refl _) Q fun y H4 e4 ry => q y H4 ((e2.trans e3).trans e4) ⟨_, List.getElem_mem hd, ry⟩
theorem ixS_ {z : Str} {n : Nat} (hz : z.length ≤ sizeLine) (hn : n ≤ z.cps.toList.length) (h : Ev ta σ H (.str z)) (hi : EvP ti σ H (isLt n)) : EvP (tOp rIxS ta ti) σ H (someF rSign (· ∈ z.cps.toList)) := fun H1 e Q q =>
  h H1 e _ fun H2 e2 => hi H2 (e.trans e2) _ fun u H3 e3 ⟨d, hd, eu⟩ => by
    subst eu
    have hd2 : d < z.cps.toList.length := by omega
    refine ⟨z, (d : Int), z.cps.toList[d], rfl, rfl, hz, by rw [atI_nat hd2, List.getElem?_eq_getElem hd2], q _ H3 (e2.trans e3) ⟨_, List.getElem_mem hd2, fun _ _ _ => rfl⟩⟩
end
theorem sel_all {γ : Type} {p : γ → Prop} : ∀ {n : Nat} {ys : List γ}, Sel (fun _ => true) (fun _ y => p y) n ys → ys.length = n ∧ ∀ y ∈ ys, p y
  | 0, ys, h => by
    rw [show ys = [] from h]
    exact ⟨rfl, fun _ h => by cases h⟩
  | n + 1, ys, h => by
    unfold Sel at h
    rw [if_pos rfl] at h
    obtain ⟨zs, y, rfl, h1, h2⟩ := h
    obtain ⟨k1, k2⟩ := sel_all h1
    refine ⟨by rw [List.length_append, k1]; rfl, fun z hz => ?_⟩
    rcases List.mem_append.mp hz with hz | hz
    · exact k2 z hz
    · rw [List.mem_singleton.mp hz]
      exact h2
theorem sign_vals {H : Hp} : ∀ {vs : List V} {cs : List Nat}, Paired (rSign H) vs cs → vs = (cs.map fun c => (⟨#[c]⟩ : Str)).map V.str
  | _, _, .nil => rfl
  | _, _, .cons h t => by rw [List.map_cons, List.map_cons, ← sign_vals t]; congr 1
open TL in
theorem join_signs : ∀ cs : List Nat, (Str.join (Str.ofString "") (cs.map fun c => (⟨#[c]⟩ : Str))).cps.toList = cs := fun cs => by
  have h : ∀ l : List (List Nat), joinL [] l = l.flatten := fun l => by
    induction l with
    | nil => rfl
    | cons p l ih => cases l with
      | nil => show p = p ++ []; rw [List.append_nil]
      | cons q r =>
        show p ++ ([] ++ joinL [] (q :: r)) = p ++ (q :: r).flatten
        rw [ih]
        rfl
  have z := tl_join (Str.ofString "") (cs.map fun c => (⟨#[c]⟩ : Str))
  have e : tl (Str.ofString "") = [] := by rw [tl_ofString]; rfl
  rw [e, h] at z
  refine Eq.trans z ?_
  rw [List.map_map]
  clear z
  induction cs with
  | nil => rfl
  | cons c cs ih =>
    rw [List.map_cons, List.flatten_cons, ih]
    rfl
/-- a name that is drawn: never five letters -/
structure DrawnOk (s : Str) : Prop extends NameOk s where
  ne5 : s.length ≠ 5
theorem name_sok {x : Str} (h : NameOk x) : sOk x := by
  show x.cps.all (· < 0x110000) = true
  rw [← Array.all_toList, List.all_eq_true]
  intro c hc
  have k : ∀ c ∈ abc.cps.toList, decide (c < 0x110000) = true := by decide +kernel
  exact k c (h.low c hc)
section
variable {P : Program} {w : World} {K : PySem.W.Frag} {mg : Str → Option Value} {base : Heap}
abbrev sp__law_name : Sp := spOf (fun (_ : Unit) => a1 rPot ()) fun _ => some_ rStr DrawnOk
theorem ok__law_name (T : Txt K mg) (G__law_draw : GFn P w K mg base "_law_draw" 1 sp__law_draw) : GFn P w K mg base "_law_name" 2 sp__law_name := by
  obtain ⟨fd, F⟩ := T.d__law_name
  have sc := (C8.fnScope_by (N := ["_law_pot_here", "_law_letters", "_law_turn"]) (P := ["_law_pot_here"]) (sc := defScope st__law_name) (by kernel_rfl))
  refine gfn T.g__law_name F sc (F.bindsN fun _ _ _ _ _ _ us hl => match us, hl with | [_], _ => rfl) (fun i vs H ⟨_, e, _⟩ => by rw [e]; rfl) ?_
  intro cdv A outer s H E i vs Q hr ⟨v1, e, r1⟩ hq
  have nd := sc.nd
  subst e
  refine ⟨_, (PSs.nox (pss_cons (ps_set (i := 1) nd (by rfl) (by first | exact Or.inl rfl | exact Or.inr rfl) pe_str)
      (pss_one (ps_ret (pe_join pe_str (pe_lc (own := [("_law_turn", 2)]) (by rfl) nd (k_range T.range (pa_cons (pe_ix (k_ixL K) (pe_lst (pa_cons pe_int (pa_cons pe_int (pa_cons pe_int pa_nil)))) (kcall G__law_draw hr (pa_cons (pv 0) (pa_cons pe_int pa_nil))) (by intro _ _; rfl)) pa_nil)) (blkOk_by (by kernel_rfl)) (fun _ _ _ _ _ => (pg_name (i := 2) nd (by rfl) (by first | exact Or.inl rfl | exact Or.inr rfl))) (fun _ _ _ _ _ => pts_nil) (fun _ _ _ _ _ => (pe_ix ix_str (pv 1) (kcall G__law_draw hr (pa_cons (pv 0) (pa_cons pe_int pa_nil))) (by intro _ _; rfl))))))))), ?_⟩
  refine r_setV Evl.ev_c fun H1 e1 => ?_
  have signs : EvP (tLc (iRng1 (tCons (tOp (rIxL K) (tLst (tCons (tC (.int 1)) (tCons (tC (.int 2)) (tCons (tC (.int 8)) tNil)))) (tCall sp__law_draw [] E0 (tCons (tVar 0) (tCons (tC (.int 3)) tNil)))) tNil)) (gName 2) tYes (tOp rIxS (tVar 1) (tCall sp__law_draw [] E0 (tCons (tVar 0) (tCons (tC (.int 26)) tNil)))) [2]) [some v1, some (V.str abc), none] H1 (someN (rLst rSign) fun cs => (1 ≤ cs.length ∧ cs.length ≤ 8 ∧ cs.length ≠ 5) ∧ ∀ c ∈ cs, c ∈ abc.cps.toList) := by
    refine lcBind (pick (R := rInt) (xs := [1, 2, 8]) (EvP.of_nw (lst_ (R := rInt) (pa1 (Ev.i Evl.ev_c) (pa1 (Ev.i Evl.ev_c) (pa1 (Ev.i Evl.ev_c) pa0))) (by decide))) (call_ (P := fun (n : {n : Nat // 0 < n ∧ n ≤ 100000}) => isLt n.1) ⟨3, by decide, by decide⟩ (ea2 (R := rPot) (S := rInt) (var rfl (up (R := rPot) e1 r1)) (Ev.i Evl.ev_c)))) fun H2 v H3 e3 ⟨n, hn, ev⟩ => ?_
    have ev : v = .int n := ev
    subst ev
    have hn2 : 1 ≤ n ∧ n ≤ 8 ∧ n ≠ 5 := by
      simp only [List.mem_cons, List.not_mem_nil, or_false] at hn
      omega
    refine (lcS (R' := rSign) (fun _ => true) (fun _ c => c ∈ abc.cps.toList) (gm_name (i := 2)) (i_range (n := n) Evl.ev_c (by omega) (by omega)) (by omega) fun i x H4 hi e4 _ => ⟨Ex.refl _, rfl, et_yes, fun _ => ixS_ (n := 26) (by decide +kernel) (by decide +kernel) (Evl.ev_var rfl) (call_ (P := fun (n : {n : Nat // 0 < n ∧ n ≤ 100000}) => isLt n.1) ⟨26, by decide, by decide⟩ (ea2 (R := rPot) (S := rInt) (var rfl (up (R := rPot) ((e1.trans e3).trans e4) r1)) (Ev.i Evl.ev_c)))⟩).imp fun _ _ _ _ _ ⟨a, cs, ev, hn3, hs, r⟩ => ?_
    obtain ⟨k1, k2⟩ := sel_all hs
    exact ⟨a, cs, ev, hn3, ⟨by omega, k2⟩, r⟩
  refine r_ret (P := some_ rStr DrawnOk) ?_ fun v H2 e2 z => hq v H2 (e1.trans e2) z
  intro H2 e2 Q2 q2
  refine ⟨⟨_, rfl⟩, signs H2 e2 _ fun v H3 e3 ⟨a, cs, ev, _, ⟨⟨l1, l8, l5⟩, hlow⟩, ⟨b, us, eb, hb, rs⟩⟩ => ?_⟩
  subst ev
  cases eb
  have eus := sign_vals rs
  have hj : Txt.join (Str.ofString "") (cs.map fun c => (⟨#[c]⟩ : Str)) = Str.join (Str.ofString "") (cs.map fun c => (⟨#[c]⟩ : Str)) := TL.join_eq _ _
  have hcs := join_signs cs
  have hlen : (Str.join (Str.ofString "") (cs.map fun c => (⟨#[c]⟩ : Str))).length = cs.length := by
    show (Str.join (Str.ofString "") (cs.map fun c => (⟨#[c]⟩ : Str))).cps.size = cs.length
    rw [← Array.length_toList, hcs]
  have hno : DrawnOk (Str.join (Str.ofString "") (cs.map fun c => (⟨#[c]⟩ : Str))) := ⟨⟨by omega, by omega, fun c hc => by rw [hcs] at hc; exact hlow c hc⟩, by omega⟩
  refine ⟨Str.ofString "", a, cs.map fun c => (⟨#[c]⟩ : Str), rfl, rfl, .inl (.inl (.inl (by rw [hb, eus]))), ?_, q2 _ H3 e3 ⟨_, hno, by rw [hj]; exact ⟨rfl, name_sok hno.toNameOk⟩⟩⟩
  have e1 : ((cs.map fun c => (⟨#[c]⟩ : Str)).map (·.length)).sum ≤ 8 := by
    have : ∀ l : List Nat, ((l.map fun c => (⟨#[c]⟩ : Str)).map (·.length)).sum = l.length := fun l => by
      induction l with
      | nil => rfl
      | cons c l ih => rw [List.map_cons, List.map_cons, List.sum_cons, ih, List.length_cons]; show 1 + _ = _; omega
    rw [this]
    omega
  have e2 : (cs.map fun c => (⟨#[c]⟩ : Str)).length * (Str.ofString "").length = 0 := Nat.mul_zero _
  omega
end
end FM

/-! ## FNames -/
set_option Elab.async false
set_option linter.all false
set_option maxRecDepth 100000
set_option maxHeartbeats 2000000
/-! Different names are drawn. -/
namespace FM
open PySem PySem.Spec PyProof.Rows L2
open Evl (Ex EvT Ev)
abbrev sg (c : Nat) : Str := ⟨#[c]⟩
theorem sg_ok {c : Nat} (h : c ∈ abc.cps.toList) : NameOk (sg c) := ⟨by show 1 ≤ 1; decide, by show 1 ≤ 8; decide, fun d hd => by
  have : d = c := by simpa using hd
  rw [this]
  exact h⟩
theorem sg_dr {c : Nat} (h : c ∈ abc.cps.toList) : DrawnOk (sg c) := ⟨sg_ok h, by show 1 ≠ 5; decide⟩
theorem free_one {ns : List Str} (h : ns.length ≤ 20) : abc.cps.toList.filter (fun c => !isIn (sg c) ns) ≠ [] := fun e => by
  rw [List.filter_eq_nil_iff] at e
  have k : ∀ x ∈ abc.cps.toList.map sg, x ∈ ns := fun x hx => by
    obtain ⟨c, hc, rfl⟩ := List.mem_map.mp hx
    have := e c hc
    exact isIn_iff.mp (by simpa using this)
  have nd : (abc.cps.toList.map sg).Nodup := by decide +kernel
  have := nodup_le nd k
  have l : (abc.cps.toList.map sg).length = 26 := by decide +kernel
  omega
structure NmsOk (ns : List Str) (n : Nat) : Prop where
  len : ns.length = n
  nd : ns.Nodup
  ok : ∀ x ∈ ns, DrawnOk x
section
variable {P : Program} {w : World} {K : PySem.W.Frag} {mg : Str → Option Value} {base : Heap}
abbrev sp__law_names : Sp := spOf (fun (n : {n : Nat // n ≤ 20}) => a2 rPot rInt () (n.1 : Int)) fun n => someN (rLst rStr) fun ns => NmsOk ns n.1
theorem ok__law_names (T : Txt K mg) (G__law_name : GFn P w K mg base "_law_name" 2 sp__law_name) : GFn P w K mg base "_law_names" 3 sp__law_names := by
  obtain ⟨fd, F⟩ := T.d__law_names
  have sc := (C8.fnScope_by (N := ["_law_pot_here", "_law_many", "_law_found", "_law_turn", "_law_drawn", "_law_free", "_law_letter"]) (P := ["_law_pot_here", "_law_many"]) (sc := defScope st__law_names) (by kernel_rfl))
  refine gfn T.g__law_names F sc (F.bindsN fun _ _ _ _ _ _ us hl => match us, hl with | [_, _], _ => rfl) (fun i vs H ⟨_, _, e, _⟩ => by rw [e]; rfl) ?_
  intro cdv A outer s H E ⟨n, hn⟩ vs Q hr ⟨v1, v2, e, r1, r2⟩ hq
  have nd := sc.nd
  have r2 : v2 = .int (n : Int) := r2
  subst e r2
  refine ⟨_, (PSs.nox (pss_cons (ps_set (i := 2) nd (by rfl) (by first | exact Or.inl rfl | exact Or.inr rfl) (pe_lst pa_nil))
      (pss_cons (ps_for PassesOwn.never (by rfl) (k_range T.range (pa_cons (pv 1) pa_nil)) (pg_name (i := 3) nd (by rfl) (by first | exact Or.inl rfl | exact Or.inr rfl)) (pss_cons (ps_set (i := 4) nd (by rfl) (by first | exact Or.inl rfl | exact Or.inr rfl) (kcall G__law_name hr (pa_cons (pv 0) pa_nil)))
      (pss_cons (ps_setLc (i := 5) (own := [("_law_letter", 6)]) (by rfl) nd (by rfl) (by rfl) (sw_true (by rfl) (by rfl) (by rfl) (by kernel_rfl)) (pi_str pe_str) (blkOk_by (by kernel_rfl)) (fun _ _ _ _ _ => (pg_name (i := 6) nd (by rfl) (by first | exact Or.inl rfl | exact Or.inr rfl))) (fun _ _ _ _ _ => (pts_one (pt_cmpR (k_notIn K) (pv 6) (pv 2) (by rfl)))) (fun _ _ _ _ _ => (pv 6)))
      (pss_one (ps_expr (k_bm K PySem.F.plainAttrs_list PySem.F.slot_list_append PySem.F.type_list_append mt_append (pv 2) (pa_cons (pe_ifExp (pt_cmpR (k_in K) (pv 4) (pv 2) (by rfl)) (pe_ix (k_ixL K) (pv 5) pe_int (by intro _ _; rfl)) (pv 4)) pa_nil)))))))
      (pss_one (ps_ret (pv 2)))))), ?_⟩
  refine r_set (lst_ (R := rStr) (xs := []) pa0 (by decide)) fun v H1 e1 ⟨L, ev, hLn, b, us0, eb, hL, rL⟩ => ?_
  subst ev
  cases eb
  cases rL
  refine sq (r_for (H := H) (j_range (m := (n : Int)) (Evl.ev_var rfl) (by omega) (by omega)) e1
    (fun j σ' H' => (∃ a b c d, σ' = [some v1, some (V.int (n : Int)), some (V.ref L), a, b, c, d]) ∧ ∃ ns, H' L = some (.lst (ns.map V.str)) ∧ NmsOk ns j)
    (fun H2 e2 => ⟨⟨_, _, _, _, rfl⟩, [], e2 L _ hL, rfl, List.nodup_nil, fun _ h => by cases h⟩) (fun Hn en hno j σ' H' hj hI eh v3 H3 e3 _ => ?_) fun σ' H' hI eh => ?_)
  · obtain ⟨⟨a, b, c, d, rfl⟩, ns, hns, ok⟩ := hI
    have hj : j < n := hj
    have hl := ok.len
    have hns3 := e3 L _ hns
    have rns3 : rLst rStr H3 (.ref L) ns := ⟨L, _, rfl, hns3, strs_ev fun x hx => name_sok (ok.ok x hx).toNameOk⟩
    dsimp only
    refine r_set (call_ (P := fun (_ : Unit) => some_ rStr DrawnOk) () (ea1 (R := rPot) (var rfl (up (R := rPot) ((en.trans eh).trans e3) r1)))) fun v4 H4 e4 ⟨x, hx, rx⟩ => ?_
    have rns4 := up (R := rLst rStr) e4 rns3
    refine r_set (P := nw (rLst rSign) (abc.cps.toList.filter fun c => !isIn (sg c) ns)) (lcF (R := rSign) (fun c => !isIn (sg c) ns) gm_name (i_signs Evl.ev_c) (by decide +kernel) ?_) fun v5 H5 e5 ⟨Fr, ev, _, rF⟩ => ?_
    · intro k c vc H6 hc e6 rc
      have hca : c ∈ abc.cps.toList := List.mem_of_getElem? hc
      have rc2 : rStr H6 vc (sg c) := ⟨rc, name_sok (sg_ok hca)⟩
      exact ⟨Ex.refl _, rfl, Evl.et_test (notInL (var (R := rStr) rfl rc2) (var rfl (up (R := rLst rStr) e6 rns4))), fun _ => (Ev.s (name_sok (sg_ok hca)) (by rw [show vc = .str (sg c) from rc] at *; exact Evl.ev_var rfl)).imp fun _ v _ _ _ r => ⟨c, rfl, fun _ _ _ => r.1⟩⟩
    · subst ev
      have rns5 := up (R := rLst rStr) e5 rns4
      have hns5 := (e4.trans e5) L _ hns3
      refine r_append (P := some_ rStr fun x => DrawnOk x ∧ x ∉ ns) hns5 (Evl.ev_var rfl) ?_ (by rw [List.length_map]; omega) fun v6 H6 e6 ⟨y, ⟨hy, hyn⟩, ry⟩ => ⟨⟨⟨_, _, _, _, rfl⟩, ns ++ [y], ?_, by rw [List.length_append, hl]; rfl, ?_, fun z hz => ?_⟩, Ex.mut ((((eh.trans e3).trans e4).trans e5).trans e6) (hno L _ hLn hL rfl)⟩
      · refine if_ (Evl.et_test (inL (var rfl (up (R := rStr) e5 rx)) (var rfl rns5))) (fun hb => ?_) fun hb => ?_
        · cases q : abc.cps.toList.filter (fun c => !isIn (sg c) ns) with
          | nil => exact absurd q (free_one (by omega))
          | cons c cs =>
            have hc : c ∈ abc.cps.toList.filter (fun c => !isIn (sg c) ns) := by rw [q]; simp
            obtain ⟨h1, h2⟩ := List.mem_filter.mp hc
            refine (ixL (R := rSign) (j := 0) (x := c) (var rfl rF) Evl.ev_c (by rw [q]; rfl)).imp fun _ v H7 _ _ r => ⟨sg c, ⟨sg_dr h1, isIn_not.mp (by simpa using h2)⟩, r, name_sok (sg_ok h1)⟩
        · exact (var (R := rStr) rfl (up (R := rStr) e5 rx)).imp fun _ v H7 _ _ r => ⟨x, ⟨hx, isIn_not.mp hb⟩, r⟩
      · rw [upd_same, List.map_append, show v6 = .str y from ry.1]
        rfl
      · rw [List.nodup_append]
        exact ⟨ok.nd, by simp, fun a ha b hb e => hyn (by rw [List.mem_singleton.mp hb] at e; exact e ▸ ha)⟩
      · rcases List.mem_append.mp hz with hz | hz
        · exact ok.ok z hz
        · rw [List.mem_singleton.mp hz]
          exact hy
  · obtain ⟨⟨a, b, c, d, rfl⟩, ns, hns, ok⟩ := hI
    exact r_retV (Evl.ev_var rfl) fun H2 e2 => hq _ _ (eh.trans e2) ⟨L, ns, rfl, hLn, ok, L, _, rfl, e2 L _ hns, strs_ev fun x hx => name_sok (ok.ok x hx).toNameOk⟩
end
end FM

/-! ## FKinds -/
set_option Elab.async false
set_option linter.all false
set_option maxRecDepth 100000
set_option maxHeartbeats 2000000
/-! The rows of a hierarchy are drawn. -/
namespace FM
open PySem PySem.Spec PyProof.Rows L2
open Evl (Ex EvT Ev)
section
variable {K : PySem.W.Frag} {σ : L2.St} {H : Hp} {te ta tb ti : TE} {β γ : Type} {R : Rdr β} {S : Rdr γ} {Pq : Hp → V → Hp → Prop} {T : β → Prop} {T2 : γ → Prop}
/-- what stands first is one of some things -/
theorem someX (f : TE → TE) (hf : ∀ σ H Q te, f te σ H Q = te σ H fun v H1 => f (tC v) σ H1 Q) [Dn Pq] (h : EvP te σ H (some_ R T)) (k : ∀ x v H2, T x → Ex H H2 → R H2 v x → EvP (f (tC v)) σ H2 Pq) : EvP (f te) σ H Pq := fun H1 e Q q => by
  rw [hf]
  exact h H1 e _ fun v H2 e2 ⟨x, hx, r⟩ => k x v H2 hx (e.trans e2) r H2 (Ex.refl _) Q fun u H3 e3 z => q u H3 (e2.trans e3) (Dn.dn e2 z)
theorem EvP.some_N {T : List β → Prop} (h : EvP te σ H (someN (rLst R) T)) : EvP te σ H (some_ (rLst R) T) := h.imp fun _ _ _ _ _ ⟨a, x, ev, _, hx, r⟩ => ⟨x, hx, by subst ev; exact r⟩
theorem is_some {x : β} (h : EvP te σ H (is R x)) : EvP te σ H (some_ R fun y => y = x) := h.imp fun _ _ _ _ _ r => ⟨x, rfl, r⟩
theorem pairX [Mono R] [Mono S] {x : β} (h1 : EvP ta σ H (is R x)) (h2 : EvP tb σ H (some_ S T2)) : EvP (tTup (tCons ta (tCons tb tNil))) σ H (some_ (rPair R S) fun z => z.1 = x ∧ T2 z.2) := fun H1 e Q q =>
  h1 H1 e _ fun v H2 e2 r => h2 H2 (e.trans e2) _ fun w H3 e3 ⟨y, hy, ry⟩ =>
    (pair_ (σ := σ) (ta := tC v) (tb := tC w) (x := x) (y := y) (ev_is Evl.ev_c (up (R := R) e3 r)) (ev_is Evl.ev_c ry)) H3 (Ex.refl _) Q fun u H4 e4 ⟨a, eu, _, z⟩ => q u H4 ((e2.trans e3).trans e4) ⟨(x, y), ⟨rfl, hy⟩, by subst eu; exact z⟩
end
/-- rows of a hierarchy with good names -/
structure KdOk (rows : Rows Str) (n : Nat) : Prop where
  good : Good rows
  len : rows.length ≤ n
  sup : ∀ r ∈ rows, r.2.length ≤ 20
  nm : ∀ r ∈ rows, DrawnOk r.1
section
variable {P : Program} {w : World} {K : PySem.W.Frag} {mg : Str → Option Value} {base : Heap}
theorem draw_ {σ : L2.St} {H : Hp} {ta tb : TE} {n : Nat} (h0 : 0 < n) (h1 : n ≤ 100000) (a : EvP ta σ H (is rPot ())) (b : Ev tb σ H (.int (n : Int))) : EvP (tCall sp__law_draw [] E0 (tCons ta (tCons tb tNil))) σ H (isLt n) :=
  call_ (P := fun (n : {n : Nat // 0 < n ∧ n ≤ 100000}) => isLt n.1) ⟨n, h0, h1⟩ (ea2 (R := rPot) (S := rInt) a (Ev.i b))
abbrev sp__law_kinds : Sp := spOf (fun (n : {n : Nat // 0 < n ∧ n ≤ 20}) => a2 rPot rInt () (n.1 : Int)) fun n => someN rRows fun rows => KdOk rows n.1 ∧ rows ≠ []
theorem ok__law_kinds (T : Txt K mg) (G__law_draw : GFn P w K mg base "_law_draw" 1 sp__law_draw) (G__law_mixed : GFn P w K mg base "_law_mixed" 2 sp__law_mixed) (G__law_names : GFn P w K mg base "_law_names" 3 sp__law_names) : GFn P w K mg base "_law_kinds" 4 sp__law_kinds := by
  obtain ⟨fd, F⟩ := T.d__law_kinds
  have sc := (C8.fnScope_by (N := ["_law_pot_here", "_law_most", "_law_rows", "_law_label", "_law_many", "_law_row"]) (P := ["_law_pot_here", "_law_most"]) (sc := defScope st__law_kinds) (by kernel_rfl))
  refine gfn T.g__law_kinds F sc (F.bindsN fun _ _ _ _ _ _ us hl => match us, hl with | [_, _], _ => rfl) (fun i vs H ⟨_, _, e, _⟩ => by rw [e]; rfl) ?_
  intro cdv A outer s H E ⟨n, hn0, hn⟩ vs Q hr ⟨v1, v2, e, r1, r2⟩ hq
  have nd := sc.nd
  have r2 : v2 = .int (n : Int) := r2
  subst e r2
  refine ⟨_, (PSs.nox (pss_cons (ps_set (i := 2) nd (by rfl) (by first | exact Or.inl rfl | exact Or.inr rfl) (pe_lst pa_nil))
      (pss_cons (ps_for PassesOwn.never (by rfl) (k_pil K (kcall G__law_names hr (pa_cons (pv 0) (pa_cons (pe_op op_add pe_int (kcall G__law_draw hr (pa_cons (pv 0) (pa_cons (pv 1) pa_nil)))) pa_nil)))) (pg_name (i := 3) nd (by rfl) (by first | exact Or.inl rfl | exact Or.inr rfl)) (pss_cons (ps_set (i := 4) nd (by rfl) (by first | exact Or.inl rfl | exact Or.inr rfl) (pe_ix (k_ixL K) (pe_lst (pa_cons pe_int (pa_cons pe_int (pa_cons pe_int (pa_cons pe_int (pa_cons pe_int (pa_cons pe_int pa_nil))))))) (kcall G__law_draw hr (pa_cons (pv 0) (pa_cons pe_int pa_nil))) (by intro _ _; rfl)))
      (pss_one (ps_expr (k_bm K PySem.F.plainAttrs_list PySem.F.slot_list_append PySem.F.type_list_append mt_append (pv 2) (pa_cons (pe_tup (pa_cons (pv 3) (pa_cons (pe_callTy (k_tuple_of K) (by rfl) T.tuple (by decide +kernel) (pa_cons (pe_slice (k_slL K) (kcall G__law_mixed hr (pa_cons (pv 0) (pa_cons (pe_lc (own := [("_law_row", 5)]) (by rfl) nd (k_pil K (pv 2)) (blkOk_by (by kernel_rfl)) (fun _ _ _ _ _ => (pg_name (i := 5) nd (by rfl) (by first | exact Or.inl rfl | exact Or.inr rfl))) (fun _ _ _ _ _ => pts_nil) (fun _ _ _ _ _ => (pe_ix (k_ixT K) (pv 5) pe_int (by intro _ _; rfl)))) pa_nil))) po_none (po_some (pv 4))) pa_nil)) pa_nil))) pa_nil))))))
      (pss_one (ps_ret (pv 2)))))), ?_⟩
  refine r_set (lst_ (R := rPair rStr rPt) (xs := []) pa0 (by decide)) fun v H1 e1 ⟨L, ev, hLn, b, us0, eb, hL, rL⟩ => ?_
  subst ev
  cases eb
  cases rL
  refine sq ?_
  have hd := draw_ (σ := [some v1, some (V.int (n : Int)), some (V.ref L), none, none, none]) (ta := tVar 0) (tb := tVar 1) hn0 (by omega) (var (R := rPot) rfl (up (R := rPot) e1 r1)) (Evl.ev_var rfl)
  -- the names
  refine ⟨v1, rfl, hd H1 (Ex.refl _) _ fun u H2 e2 ⟨d, hd2, eu⟩ => ?_⟩
  subst eu
  refine ⟨1, (d : Int), rfl, rfl, ?_⟩
  refine ⟨⟨1 + d, by omega⟩, ⟨v1, _, rfl, up (R := rPot) (e1.trans e2) r1, by show V.int (1 + (d : Int)) = V.int ((1 + d : Nat) : Int); congr 1⟩, fun u H3 e3 ⟨N, ns, eu, hNn, ok, rN⟩ => ?_⟩
  subst eu
  have hL3 : H3 L = some (.lst []) := e3 L _ (e2 L _ hL)
  have nNL : N ≠ L := fun z => by rw [z, e2 L _ hL] at hNn; cases hNn
  have e0B : Ex H (wo L H3) := wo_le ((e1.trans e2).trans e3) hLn
  have rNB : rLst rStr (wo L H3) (.ref N) ns := by
    obtain ⟨N2, us, eN, hN, rs⟩ := rN
    cases eN
    exact ⟨N, us, rfl, by rw [wo_ne nNL]; exact hN, pmap rs fun _ _ r => r⟩
  have hnl : ns.length = 1 + d := ok.len
  show tFor (iList K (tC (.ref N))) _ _ _ _ H3
  refine r_for (H := wo L H3) (j_list (R := rStr) Evl.ev_c rNB) wo_ex
    (fun j σ' H' => (∃ a b c, σ' = [some v1, some (V.int (n : Int)), some (V.ref L), a, b, c]) ∧ ∃ us rows, H' L = some (.lst us) ∧ Paired (rPair rStr rPt H') us rows ∧ (Good rows ∧ (∀ r ∈ rows, r.2.length ≤ 20)) ∧ nms rows = ns.take j)
    (fun H4 e4 => ⟨⟨_, _, _, rfl⟩, [], [], e4 L _ hL3, .nil, ⟨.nil, fun _ h => by cases h⟩, rfl⟩) (fun Hn en hno j σ' H' hj hI eh v5 H5 e5 ⟨x, hx, rx⟩ => ?_) fun σ' H' hI eh => ?_
  · obtain ⟨⟨a, b, c, rfl⟩, us, rows, hus, ru, ⟨good, sup⟩, hnm⟩ := hI
    have hLn' : Hn L = none := hno L _ wo_none hL3 rfl
    have hus5 := e5 L _ hus
    have e05 : Ex H H5 := e0B.trans ((en.trans eh).trans e5)
    have hrl : rows.length ≤ 20 := by
      have h1 : (nms rows).length = rows.length := List.length_map _
      rw [hnm] at h1
      have := List.length_take_le' j ns
      omega
    have hnl2 : (nms rows).length ≤ 20 := by unfold nms; rw [List.length_map]; exact hrl
    have hxn : x ∉ nms rows := fun hm => by
      rw [hnm] at hm
      obtain ⟨k, hk⟩ := List.mem_iff_getElem?.mp hm
      rw [List.getElem?_take] at hk
      split at hk
      · rename_i hlt
        exact List.pairwise_iff_getElem.mp ok.nd k j _ _ hlt ((List.getElem?_eq_some_iff.mp hk).2.trans (List.getElem?_eq_some_iff.mp hx).2.symm)
      · cases hk
    dsimp only
    refine r_set (pick (R := rInt) (xs := [0, 1, 1, 2, 2, 3]) (EvP.of_nw (lst_ (R := rInt) (pa1 (Ev.i Evl.ev_c) (pa1 (Ev.i Evl.ev_c) (pa1 (Ev.i Evl.ev_c) (pa1 (Ev.i Evl.ev_c) (pa1 (Ev.i Evl.ev_c) (pa1 (Ev.i Evl.ev_c) pa0)))))) (by decide))) (draw_ (n := 6) (by decide) (by decide) (var (R := rPot) rfl (up (R := rPot) e05 r1)) Evl.ev_c)) fun v6 H6 e6 ⟨z, hz, ev⟩ => ?_
    have ev : v6 = .int z := ev
    subst ev
    obtain ⟨m, hm, hm3⟩ : ∃ m : Nat, z = (m : Int) ∧ m ≤ 3 := by
      simp only [List.mem_cons, List.not_mem_nil, or_false] at hz
      exact ⟨z.toNat, by omega, by omega⟩
    subst hm
    have hus6 := e6 L _ hus5
    have e06 := e05.trans e6
    have ru6 : rRows H6 (.ref L) rows := ⟨L, us, rfl, hus6, pmap ru fun _ _ r => up (R := rPair rStr rPt) (e5.trans e6) r⟩
    refine r_append (P := some_ (rPair rStr rPt) fun r => r.1 = x ∧ ∃ ys : List Str, ys.Perm (nms rows) ∧ r.2 = ys.take m) hus6 (Evl.ev_var rfl) ?_ (by have := plen ru; omega) fun v7 H7 e7 ⟨⟨y, p⟩, ⟨hy, ys, hys, hp⟩, ry⟩ => ⟨⟨⟨_, _, _, rfl⟩, us ++ [v7], rows ++ [(y, p)], upd_same, ?_, ⟨?_, fun r hr => ?_⟩, ?_⟩, Ex.mut (((eh.trans e5).trans e6).trans e7) hLn'⟩
    · refine pairX (R := rStr) (S := rPt) (T2 := fun p => ∃ ys : List Str, ys.Perm (nms rows) ∧ p = ys.take m) (var rfl (up (R := rStr) e6 rx)) ?_
      refine someX (R := rLst rStr) (T := fun p => ∃ ys : List Str, ys.Perm (nms rows) ∧ p = ys.take m) (fun te => tCB (qTuple K) (tCons te tNil)) (fun _ _ _ _ => rfl) ?_ fun q v H8 hq8 e8 rq => (EvP.of_nw (tuple_l (R := rStr) (ev_is Evl.ev_c rq))).imp fun _ _ _ _ _ r => ⟨q, hq8, r⟩
      refine someX (R := rLst rStr) (T := fun ys => ys.Perm (nms rows)) (fun te => tSl (rSlL K) te tNoPart (tPart (tVar 4))) (fun _ _ _ _ => rfl) ?_ fun ys v H8 hys e8 rq => (EvP.of_nw (slL_hi (R := rStr) (m := m) (ev_is Evl.ev_c rq) (Evl.ev_var rfl))).imp fun _ _ _ _ _ r => ⟨ys.take m, ⟨ys, hys, rfl⟩, r⟩
      refine EvP.some_N (call_ (P := fun (i : {xs : List Str // xs.length ≤ 20}) => someN (rLst rStr) (fun ys => ys.Perm i.1)) ⟨nms rows, hnl2⟩ (ea2 (R := rPot) (S := rLst rStr) (var rfl (up (R := rPot) e06 r1)) (EvP.of_nw (lcM (R := rPair rStr rPt) (R' := rStr) (xs := rows) (fun r => r.1) gm_name (i_list (var rfl ru6)) (by omega) ?_))))
      intro k r vr H8 hr e8 rr
      exact ⟨Ex.refl _, rfl, et_yes, EvP.flatI (ixP0 (R := rStr) (S := rPt) (var rfl rr))⟩
    · have hus7 := e7 L _ hus6
      exact psnoc (pupd (R := rPair rStr rPt) hus7 (pmap ru fun _ _ r => up (R := rPair rStr rPt) ((e5.trans e6).trans e7) r)) (upT (R := rPair rStr rPt) (Tx.upd hus7 (fun _ k => by cases k) fun _ _ k => by cases k) ry)
    · have hy : y = x := hy
      have hp : p = ys.take m := hp
      subst hy hp
      exact .snoc good hxn (fun s hs => hys.subset (List.mem_of_mem_take hs)) (List.Nodup.sublist (List.take_sublist _ _) (hys.nodup_iff.mpr good.nodup))
    · rcases List.mem_append.mp hr with hr | hr
      · exact sup r hr
      · rw [List.mem_singleton.mp hr]
        have hp : p = ys.take m := hp
        show p.length ≤ 20
        rw [hp, List.length_take]
        omega
    · rw [nms_snoc, hnm, List.take_add_one, hx]
      have hy : y = x := hy
      rw [hy]
      rfl
  · obtain ⟨⟨a, b, c, rfl⟩, us, rows, hus, ru, ⟨good, sup⟩, hnm⟩ := hI
    rw [List.take_length] at hnm
    have hrn : rows.length = ns.length := by rw [← hnm]; exact (List.length_map _).symm
    dsimp only
    refine r_retV (Evl.ev_var rfl) fun H4 e4 => hq _ _ ((e0B.trans eh).trans e4) ⟨L, rows, rfl, hLn, ⟨⟨good, by show rows.length ≤ n; omega, sup, fun r hr => ok.ok _ (by rw [← hnm]; exact List.mem_map.mpr ⟨r, hr, rfl⟩)⟩, fun z => by rw [z] at hrn; simp at hrn; omega⟩, L, us, rfl, e4 L _ hus, pmap ru fun _ _ r => up (R := rPair rStr rPt) e4 r⟩
end
end FM

/-! ## FBod -/
set_option Elab.async false
set_option linter.all false
set_option maxRecDepth 100000
set_option maxHeartbeats 2000000
/-! A body is drawn. -/
namespace FM
open PySem PySem.Spec PyProof.Rows L2
open Evl (Ex EvT Ev)
/-- a test of which nothing is known -/
def EvTX (tt : TT) (σ : L2.St) (H : Hp) : Prop := ∀ H1, Ex H H1 → ∀ Q : Bool → Hp → Prop, (∀ b H2, Ex H1 H2 → Q b H2) → tt σ H1 Q
section
variable {K : PySem.W.Frag} {σ : L2.St} {H : Hp} {te ta tb ti : TE} {tt : TT} {tu tw tz : TS} {D : Ends} {β γ : Type} {R : Rdr β} {T : Str → Prop}
theorem r_ifX (h : EvTX tt σ H) (h1 : ∀ H1, Ex H H1 → tu { D with nx := tz D } σ H1) (h2 : ∀ H1, Ex H H1 → tw { D with nx := tz D } σ H1) : tSeq (tIfS tt tu tw) tz D σ H :=
  h H (Ex.refl _) _ fun b H1 e => by
    cases b with
    | true => exact h1 H1 e
    | false => exact h2 H1 e
theorem tup2X {x : Str} (h1 : EvP ta σ H (is rStr x)) (h2 : EvP tb σ H (some_ rStr T)) : EvP (tTup (tCons ta (tCons tb tNil))) σ H (some_ rPt fun s => ∃ w, T w ∧ s = [x, w]) := fun H1 e Q q =>
  h1 H1 e _ fun v H2 e2 r => h2 H2 (e.trans e2) _ fun w H3 e3 ⟨y, hy, ry⟩ =>
    (EvP.of_nw (tup_ (R := rStr) (σ := σ) (pa1 (te := tC v) (x := x) (ev_is Evl.ev_c (up (R := rStr) e3 r)) (pa1 (te := tC w) (x := y) (ev_is Evl.ev_c ry) pa0)) (show 2 ≤ 100000 by decide))) H3 (Ex.refl _) Q fun u H4 e4 z => q u H4 ((e2.trans e3).trans e4) ⟨[x, y], ⟨y, hy, rfl⟩, z⟩
end
theorem say_ne (w : Str) : [("say" : Str), w] ≠ nxt := fun e => by
  have := congrArg List.length e
  cases this
structure WdOk (ws : List Str) : Prop where
  ne : ws ≠ []
  all : ∀ w ∈ ws, w ∈ words
  few : ws.length ≤ 3
section
variable {P : Program} {w : World} {K : PySem.W.Frag} {mg : Str → Option Value} {base : Heap}
abbrev sp__law_body : Sp := spOf (fun (i : {i : List Str × Bool // WdOk i.1}) => a3 rPot (rLst rStr) rBool () i.1.1 i.1.2) fun i => some_ rBodyN fun bd => BodOk bd ∧ (nxt ∈ bd → i.1.2 = true)
theorem ok__law_body (T : Txt K mg) (G__law_draw : GFn P w K mg base "_law_draw" 1 sp__law_draw) : GFn P w K mg base "_law_body" 2 sp__law_body := by
  obtain ⟨fd, F⟩ := T.d__law_body
  have sc := (C8.fnScope_by (N := ["_law_pot_here", "_law_words", "_law_can_pass_on", "_law_steps", "_law_turn"]) (P := ["_law_pot_here", "_law_words", "_law_can_pass_on"]) (sc := defScope st__law_body) (by kernel_rfl))
  refine gfn T.g__law_body F sc (F.bindsN fun _ _ _ _ _ _ us hl => match us, hl with | [_, _, _], _ => rfl) (fun i vs H ⟨_, _, _, e, _⟩ => by rw [e]; rfl) ?_
  intro cdv A outer s H E ⟨⟨ws, b⟩, wok⟩ vs Q hr ⟨v1, v2, v3, e, r1, r2, r3⟩ hq
  have nd := sc.nd
  have r3 : v3 = .bl b := r3
  have r2 : rLst rStr H v2 ws := r2
  have wok : WdOk ws := wok
  have hq : ∀ v H', Ex H H' → some_ rBodyN (fun bd => BodOk bd ∧ (nxt ∈ bd → b = true)) H v H' → Q v H' := hq
  subst e r3
  refine ⟨_, (PSs.nox (pss_cons (ps_setLc (i := 3) (own := [("_law_turn", 4)]) (by rfl) nd (by rfl) (by rfl) (sw_true (by rfl) (by rfl) (by rfl) (by kernel_rfl)) (k_range T.range (pa_cons (pe_ix (k_ixL K) (pe_lst (pa_cons pe_int (pa_cons pe_int (pa_cons pe_int (pa_cons pe_int (pa_cons pe_int pa_nil)))))) (kcall G__law_draw hr (pa_cons (pv 0) (pa_cons pe_int pa_nil))) (by intro _ _; rfl)) pa_nil)) (blkOk_by (by kernel_rfl)) (fun _ _ _ _ _ => (pg_name (i := 4) nd (by rfl) (by first | exact Or.inl rfl | exact Or.inr rfl))) (fun _ _ _ _ _ => pts_nil) (fun _ _ _ _ _ => (pe_tup (pa_cons pe_str (pa_cons (pe_ix (k_ixL K) (pv 1) (kcall G__law_draw hr (pa_cons (pv 0) (pa_cons (pe_callB (k_len K) (by rfl) T.len (by decide +kernel) (pa_cons (pv 1) pa_nil)) pa_nil))) (by intro _ _; rfl)) pa_nil)))))
      (pss_cons (ps_if (PW.pt (pw_and (pt_val (pv 2)) (pw_and1 (pt_cmpR op_eq (kcall G__law_draw hr (pa_cons (pv 0) (pa_cons pe_int pa_nil))) pe_int (nomark _))))) (pss_one (ps_expr (k_bm K PySem.F.plainAttrs_list PySem.F.slot_list_insert PySem.F.type_list_insert mt_insert (pv 3) (pa_cons (kcall G__law_draw hr (pa_cons (pv 0) (pa_cons (pe_op op_add (pe_callB (k_len K) (by rfl) T.len (by decide +kernel) (pa_cons (pv 3) pa_nil)) pe_int) pa_nil))) (pa_cons (pe_tup (pa_cons pe_str pa_nil)) pa_nil))))) pss_nil)
      (pss_one (ps_ret (pe_callTy (k_tupleN K) (by rfl) T.tuple (by decide +kernel) (pa_cons (pv 3) pa_nil))))))), ?_⟩
  have wl : 0 < ws.length := List.length_pos_iff.mpr wok.ne
  have few := wok.few
  refine r_set (P := someN (rLst rPt) fun st => st.length ≤ 2 ∧ ∀ s ∈ st, ∃ w ∈ ws, s = [("say" : Str), w]) ?_ fun v4 H1 e1 ⟨L, st, ev, hLn, ⟨sl, hst⟩, rL⟩ => ?_
  · refine lcBind (pick (R := rInt) (xs := [0, 1, 1, 1, 2]) (EvP.of_nw (lst_ (R := rInt) (pa1 (Ev.i Evl.ev_c) (pa1 (Ev.i Evl.ev_c) (pa1 (Ev.i Evl.ev_c) (pa1 (Ev.i Evl.ev_c) (pa1 (Ev.i Evl.ev_c) pa0))))) (by decide))) (draw_ (n := 5) (by decide) (by decide) (var (R := rPot) rfl r1) Evl.ev_c)) fun H2 v H3 e3 ⟨z, hz, ev⟩ => ?_
    have ev : v = .int z := ev
    subst ev
    have hz2 : 0 ≤ z ∧ z ≤ 2 := by
      simp only [List.mem_cons, List.not_mem_nil, or_false] at hz
      omega
    refine (lcS (R' := rPt) (fun _ => true) (fun _ s => ∃ w ∈ ws, s = [("say" : Str), w]) gm_name (i_range (n := z) Evl.ev_c (by omega) (by omega)) (by omega) fun i x H4 hi e4 _ => ⟨Ex.refl _, rfl, et_yes, fun _ => EvP.flat (tup2X (T := (· ∈ ws)) (const ok_say) (pick (R := rStr) (xs := ws) (var rfl (up (R := rLst rStr) (e3.trans e4) r2)) (draw_ (n := ws.length) wl (by omega) (var (R := rPot) rfl (up (R := rPot) (e3.trans e4) r1)) (len_l (R := rStr) (var rfl (up (R := rLst rStr) (e3.trans e4) r2))))))⟩).imp fun _ _ _ _ _ ⟨a, ys, ev, hn3, hs, r⟩ => ?_
    obtain ⟨k1, k2⟩ := sel_all hs
    exact ⟨a, ys, ev, hn3, ⟨by omega, k2⟩, r⟩
  subst ev
  have nox : nxt ∉ st := fun h => by
    obtain ⟨w, _, e⟩ := hst nxt h
    exact say_ne w e.symm
  have stk : ∀ s ∈ st, StepOk s := fun s h => .inr (by obtain ⟨w, hw, e⟩ := hst s h; exact ⟨w, wok.all w hw, e⟩)
  have fin : ∀ (bd : List (List Str)) (H2 : Hp), Ex H H2 → rLst rPt H2 (.ref L) bd → BodOk bd ∧ (nxt ∈ bd → b = true) → tRet (tCB (qTupleN K) (tCons (tVar 3) tNil)) { nx := fun _ H' => Q .non H', rt := Q } [some v1, some v2, some (V.bl b), some (V.ref L), none] H2 := fun bd H2 e2 r h =>
    r_ret (tupleN (R := rPt) (var rfl r)) fun v H3 e3 ⟨a, ev, _, z⟩ => hq v H3 (e2.trans e3) ⟨bd, h, by subst ev; exact z⟩
  have plain : BodOk st ∧ (nxt ∈ st → b = true) := ⟨⟨stk, by
    rw [List.countP_eq_zero.mpr fun s hs => by simpa using fun e : s = nxt => nox (e ▸ hs)]
    decide, by omega⟩, fun h => absurd h nox⟩
  cases b with
  | false =>
    refine r_not (Evl.et_is (Evl.et_and (a := false) (b := false) (Evl.et_B (Evl.ev_var rfl)) fun h => by cases h) rfl) fun H2 e2 => ?_
    exact fin st H2 (e1.trans e2) (up (R := rLst rPt) e2 rL) plain
  | true =>
    refine r_ifX (fun H2 e2 Q2 q2 => ⟨_, rfl, true, rfl, ?_⟩) (fun H2 e2 => ?_) fun H2 e2 => ?_
    · dsimp only
      rw [if_pos rfl]
      exact (draw_ (n := 3) (by decide) (by decide) (var (R := rPot) rfl (up (R := rPot) (e1.trans e2) r1)) Evl.ev_c) H2 (Ex.refl _) _ fun v H3 e3 ⟨d, hd, ev⟩ => by
        subst ev
        exact ⟨rfl, _, rfl, q2 _ H3 e3⟩
    · obtain ⟨L2', us, eL, hL, ru⟩ := up (R := rLst rPt) e2 rL
      cases eL
      have lu := plen ru
      refine ⟨.ref L, rfl, .inl ⟨rfl, _, .inl (.inl hL)⟩, ?_⟩
      have len1 : Ev (tOp (rI0 fun i j => .int (i + j)) (tCB (qLen K) (tCons (tVar 3) tNil)) (tC (.int 1))) [some v1, some v2, some (V.bl true), some (V.ref L), none] H2 (.int ((st.length + 1 : Nat) : Int)) := Evl.ev_op (len_l (R := rPt) (var rfl (show rLst rPt H2 (.ref L) st from ⟨L, us, rfl, hL, ru⟩))) Evl.ev_c Evl.rv_I0
      refine (draw_ (n := st.length + 1) (by omega) (by omega) (var (R := rPot) rfl (up (R := rPot) (e1.trans e2) r1)) len1) H2 (Ex.refl _) _ fun v H3 e3 ⟨d, hd, ev⟩ => ?_
      subst ev
      refine (tup_ (R := rStr) (xs := nxt) (pa1 (const ok_next) pa0) (by decide)) H3 (Ex.refl _) _ fun u H4 e4 ⟨N, eN, hNn, rN⟩ => ?_
      subst eN
      have hL4 := (e3.trans e4) L _ hL
      refine ⟨L, us, (d : Int), .ref N, rfl, rfl, hL4, Evl.sz_lt (by omega), by omega, by omega, ?_⟩
      have e04 : Ex H H4 := ((e1.trans e2).trans e3).trans e4
      have ru4 : Paired (rPt (upd H4 L (.lst (us.take d ++ [.ref N] ++ us.drop d)))) us st := pupd (R := rPt) hL4 (pmap ru fun _ _ r => up (R := rPt) (e3.trans e4) r)
      have rN4 : rPt (upd H4 L (.lst (us.take d ++ [.ref N] ++ us.drop d))) (.ref N) nxt := upT (R := rPt) (Tx.upd hL4 (fun _ k => by cases k) fun _ _ k => by cases k) rN
      refine fin (st.take d ++ [nxt] ++ st.drop d) _ (Ex.mut e04 hLn) ⟨L, _, rfl, upd_same, papp (papp (ptake d ru4) (.cons rN4 .nil)) (pdrop d ru4)⟩ ⟨⟨fun s hs => ?_, ?_, ?_⟩, fun _ => rfl⟩
      · rw [List.mem_append, List.mem_append, List.mem_singleton] at hs
        rcases hs with (hs | hs) | hs
        · exact stk s (List.mem_of_mem_take hs)
        · exact .inl hs
        · exact stk s (List.mem_of_mem_drop hs)
      · have z : ∀ l : List (List Str), (∀ s ∈ l, s ∈ st) → l.countP (fun y => decide (y = nxt)) = 0 := fun l k => List.countP_eq_zero.mpr fun s hs => by simpa using fun e : s = nxt => nox (e ▸ k s hs)
        rw [List.countP_append, List.countP_append, z _ fun s hs => List.mem_of_mem_take hs, z _ fun s hs => List.mem_of_mem_drop hs]
        decide +kernel
      · rw [List.length_append, List.length_append, List.length_take, List.length_drop]
        simp
        omega
    · exact fin st H2 (e1.trans e2) (up (R := rLst rPt) e2 rL) plain
end
end FM

/-! ## FMeths -/
set_option Elab.async false
set_option linter.all false
set_option maxRecDepth 100000
set_option maxHeartbeats 2000000
/-! A table of methods is drawn. -/
namespace FM
open PySem PySem.Spec PyProof.Rows L2
open Evl (Ex EvT Ev)
theorem cnt_eq {σ : Type} [DecidableEq σ] (nx : σ) (b : List σ) : cnt nx b = b.countP fun y => decide (y = nx) := by
  unfold cnt
  rw [List.count]
  refine List.countP_congr fun y _ => ?_
  simp
theorem wo_lst {H : Hp} {D : Addr} {kvs : List (List Key × V)} {v : V} {β : Type} {R : Rdr β} [MoT R] {xs : List β} (h : H D = some (.dT kvs)) (r : rLst R H v xs) : rLst R (wo D H) v xs := by
  obtain ⟨O, us, eO, hO, rs⟩ := r
  have : O ≠ D := fun z => by rw [z, h] at hO; cases hO
  exact ⟨O, us, eO, by rw [wo_ne this]; exact hO, pmap rs fun _ _ r => upT (R := R) (fun b o xs k e => by rw [wo_ne fun z => by rw [z, h] at e; cases e; rcases k with k | ⟨_, k⟩ <;> cases k]; exact e) r⟩
/-- the first few items, how many is not known -/
theorem slL_hiX {K : PySem.W.Frag} {σ : L2.St} {H : Hp} {te ti : TE} {β : Type} {R : Rdr β} [Mono R] {xs : List β} {T : Nat → Prop} (h : EvP te σ H (is (rLst R) xs)) (hi : EvP ti σ H (fun _ v _ => ∃ d : Nat, T d ∧ v = .int (d : Int))) : EvP (tSl (rSlL K) te tNoPart (tPart ti)) σ H (someN (rLst R) fun ys => ∃ d, T d ∧ ys = xs.take d) := fun H1 e Q q =>
  h H1 e _ fun v H2 e2 r => hi H2 (e.trans e2) _ fun u H3 e3 ⟨d, hd, eu⟩ => by
    subst eu
    exact (slL_hi (K := K) (σ := σ) (te := tC v) (ti := tC (.int (d : Int))) (m := d) (ev_is Evl.ev_c (up (R := rLst R) e3 r)) Evl.ev_c) H3 (Ex.refl _) Q fun y H4 e4 ⟨a, ey, hn, z⟩ => q y H4 ((e2.trans e3).trans e4) ⟨a, _, ey, Evl.fresh_back (e2.trans e3) hn, ⟨d, hd, rfl⟩, z⟩
section
variable {P : Program} {w : World} {K : PySem.W.Frag} {mg : Str → Option Value} {base : Heap}
structure MsI where
  (rows : Rows Str) (m : Nat) (ok : Rok rows) (ne : rows ≠ []) (h1 : 1 ≤ m) (h3 : m ≤ 3)
/-- what is drawn -/
structure MsOk (rows : Rows Str) (m : Nat) (made : Made) : Prop where
  mok : Mok rows m made
  bods : ∀ z ∈ made, BodOk z.2
theorem small_of {made : Made} (h : made.length ≤ 8) (k : ∀ z ∈ made, BodOk z.2) : Small made := ⟨h, fun z hz => ⟨(k z hz).short, by rw [cnt_eq]; exact (k z hz).one⟩⟩
abbrev sp__law_methods : Sp := spOf (fun (i : MsI) => a4 rPot rRows rInt rInt () i.rows (i.m : Int) 8) fun i => someN rMadeN fun made => MsOk i.rows i.m made
theorem ok__law_methods (T : Txt K mg) (G__law_ups : GFn P w K mg base "_law_ups" 2 sp__law_ups) (G__law_all_points : GFn P w K mg base "_law_all_points" 1 sp__law_all_points) (G__law_draw : GFn P w K mg base "_law_draw" 1 sp__law_draw)
    (G__law_expansions : GFn P w K mg base "_law_expansions" 4 sp__law_expansions) (G__law_near : GFn P w K mg base "_law_near" 3 sp__law_near) (G__law_is_one : GFn P w K mg base "_law_is_one" 1 sp__law_is_one) (G__law_body : GFn P w K mg base "_law_body" 2 sp__law_body) : GFn P w K mg base "_law_methods" 5 sp__law_methods := by
  obtain ⟨fd, F⟩ := T.d__law_methods
  have sc := (C8.fnScope_by (N := ["_law_pot_here", "_law_rows", "_law_many", "_law_most", "_law_words", "_law_chosen", "_law_spot", "_law_ups_here", "_law_order", "_law_made", "_law_grown", "_law_can_pass_on", "_law_turn", "_law_one"]) (P := ["_law_pot_here", "_law_rows", "_law_many", "_law_most"]) (sc := defScope st__law_methods) (by kernel_rfl))
  refine gfn T.g__law_methods F sc (F.bindsN fun _ _ _ _ _ _ us hl => match us, hl with | [_, _, _, _], _ => rfl) (fun i vs H ⟨_, _, _, _, e, _⟩ => by rw [e]; rfl) ?_
  intro cdv A outer s H E ⟨rows, m, ok, ne, h1, h3⟩ vs Q hr ⟨v1, v2, v3, v4, e, r1, r2, r3, r4⟩ hq
  have nd := sc.nd
  have hu := u1 hr
  have hu65 := u65 hr
  have r3 : v3 = .int (m : Int) := r3
  have r4 : v4 = .int 8 := r4
  have r2 : rRows H v2 rows := r2
  subst e r3 r4
  refine ⟨_, (PSs.nox (pss_cons (ps_asg (pe_tup (pa_cons (kcall G__law_ups hr (pa_cons (pv 1) pa_nil)) (pa_cons (kcall G__law_all_points hr (pa_cons (pv 1) (pa_cons (pv 2) pa_nil))) (pa_cons pe_dnewT pa_nil)))) (k_gtup K (n := 3) (pgs_cons (pg_name (i := 7) nd (by rfl) (by first | exact Or.inl rfl | exact Or.inr rfl)) (pgs_cons (pg_name (i := 8) nd (by rfl) (by first | exact Or.inl rfl | exact Or.inr rfl)) (pgs_cons (pg_name (i := 9) nd (by rfl) (by first | exact Or.inl rfl | exact Or.inr rfl)) pgs_nil)))))
      (pss_cons (ps_set (i := 4) nd (by rfl) (by first | exact Or.inl rfl | exact Or.inr rfl) (pe_slice (k_slL K) (pe_lst (pa_cons pe_str (pa_cons pe_str (pa_cons pe_str pa_nil)))) po_none (po_some (pe_op op_add pe_int (kcall G__law_draw hr (pa_cons (pv 0) (pa_cons pe_int pa_nil)))))))
      (pss_cons (ps_set (i := 5) nd (by rfl) (by first | exact Or.inl rfl | exact Or.inr rfl) (pe_lc (own := [("_law_turn", 12)]) (by rfl) nd (k_range T.range (pa_cons (kcall G__law_draw hr (pa_cons (pv 0) (pa_cons (pe_op op_add (pv 3) pe_int) pa_nil))) pa_nil)) (blkOk_by (by kernel_rfl)) (fun _ _ _ _ _ => (pg_name (i := 12) nd (by rfl) (by first | exact Or.inl rfl | exact Or.inr rfl))) (fun _ _ _ _ _ => pts_nil) (fun _ _ _ _ _ => (pe_ix (k_ixL K) (pv 8) (kcall G__law_draw hr (pa_cons (pv 0) (pa_cons (pe_callB (k_len K) (by rfl) T.len (by decide +kernel) (pa_cons (pv 8) pa_nil)) pa_nil))) (by intro _ _; rfl)))))
      (pss_cons (ps_for PassesOwn.never (by rfl) (k_pil K (pe_lc (own := [("_law_one", 13)]) (by rfl) nd (k_pil K (pv 8)) (blkOk_by (by kernel_rfl)) (fun _ _ _ _ _ => (pg_name (i := 13) nd (by rfl) (by first | exact Or.inl rfl | exact Or.inr rfl))) (fun _ _ _ _ _ => (pts_one (pt_cmpR (k_inD K hu65) (pv 13) (pv 5) (by rfl)))) (fun _ _ _ _ _ => (pv 13)))) (pg_name (i := 6) nd (by rfl) (by first | exact Or.inl rfl | exact Or.inr rfl)) (pss_cons (ps_set (i := 10) nd (by rfl) (by first | exact Or.inl rfl | exact Or.inr rfl) (kcall G__law_expansions hr (pa_cons (pv 7) (pa_cons (pv 9) (pa_cons (pv 8) pa_nil)))))
      (pss_cons (ps_set (i := 11) nd (by rfl) (by first | exact Or.inl rfl | exact Or.inr rfl) (kcall G__law_is_one hr (pa_cons (pe_lc (own := [("_law_one", 13)]) (by rfl) nd (k_pil K (kcall G__law_near hr (pa_cons (pv 7) (pa_cons (pv 9) (pa_cons (pv 6) pa_nil))))) (blkOk_by (by kernel_rfl)) (fun _ _ _ _ _ => (pg_name (i := 13) nd (by rfl) (by first | exact Or.inl rfl | exact Or.inr rfl))) (fun _ _ _ _ _ => pts_nil) (fun _ _ _ _ _ => (pe_dget hu (pv 10) (pv 13) (by intro _ _; rfl)))) pa_nil)))
      (pss_one (ps_dput hu (pv 9) (pv 6) (kcall G__law_body hr (pa_cons (pv 0) (pa_cons (pv 4) (pa_cons (pv 11) pa_nil)))) (by rfl))))))
      (pss_one (ps_ret (pv 9)))))))), ?_⟩
  have hlen : (nms rows).length ≤ 20 := by unfold nms; rw [List.length_map]; exact ok.len
  have hc8 := combos_le (m := m) hlen h3
  have hc0 : 0 < (combos (nms rows) m).length := by
    rw [combos_len]
    refine Nat.pow_pos ?_
    unfold nms
    rw [List.length_map]
    exact List.length_pos_iff.mpr ne
  refine sq ?_
  refine (call_ (σ := start ["_law_pot_here", "_law_rows", "_law_many", "_law_most", "_law_words", "_law_chosen", "_law_spot", "_law_ups_here", "_law_order", "_law_made", "_law_grown", "_law_can_pass_on", "_law_turn", "_law_one"] [v1, v2, .int (m : Int), .int 8]) (H := H) (E := E0) (A := fun (i : {rows : Rows Str // Rok rows}) => a1 rRows i.1) (P := fun (i : {rows : Rows Str // Rok rows}) => is rUps (upsOf i.1)) ⟨rows, ok⟩ (ea1 (te := tVar 1) (R := rRows) (var rfl r2))) H (Ex.refl _) _ fun vu H1 e1 ru => ?_
  refine (call_ (σ := start ["_law_pot_here", "_law_rows", "_law_many", "_law_most", "_law_words", "_law_chosen", "_law_spot", "_law_ups_here", "_law_order", "_law_made", "_law_grown", "_law_can_pass_on", "_law_turn", "_law_one"] [v1, v2, .int (m : Int), .int 8]) (H := H1) (E := E0) (A := fun (i : ApI) => a2 rRows rInt i.rows (i.m : Int)) (P := fun (i : ApI) => nw rPts (combos (nms i.rows) i.m)) ⟨rows, m, ok, h3⟩ (ea2 (te := tVar 1) (tf := tVar 2) (R := rRows) (S := rInt) (var rfl (up (R := rRows) e1 r2)) (Ev.i (Evl.ev_var rfl)))) H1 (Ex.refl _) _ fun vo H2 e2 ⟨O, evo, _, rO⟩ => ?_
  subst evo
  intro D hD
  refine ⟨by show 3 ≤ sizeLine; decide, fun p hp => ⟨p, _, rfl, .inl (.inl upd_same), rfl, _, _, rfl, _, _, rfl, _, _, rfl, rfl, ?_⟩⟩
  have hD3 : upd (upd H2 D (.dT [])) p (.tup [vu, .ref O, .ref D]) D = some (.dT []) := by
    have : D ≠ p := fun z => by rw [z, upd_same] at hp; cases hp
    rw [upd_ne this, upd_same]
  have e3 : Ex H2 (upd (upd H2 D (.dT [])) p (.tup [vu, .ref O, .ref D])) := (Ex.new hD).trans (Ex.new hp)
  dsimp only
  show tSeq _ _ _ [some v1, some v2, some (V.int (m : Int)), some (V.int 8), none, none, none, some vu, some (V.ref O), some (V.ref D), none, none, none, none] (upd (upd H2 D (.dT [])) p (.tup [vu, .ref O, .ref D]))
  generalize upd (upd H2 D (.dT [])) p (.tup [vu, .ref O, .ref D]) = H3 at hD3 e3
  have hD0 : H D = none := Evl.fresh_back (e1.trans e2) hD
  have e03 : Ex H H3 := (e1.trans e2).trans e3
  have ru3 : rUps H3 vu (upsOf rows) := up (R := rUps) (e2.trans e3) ru
  have rO3 : rPts H3 (.ref O) (combos (nms rows) m) := up (R := rPts) e3 rO
  refine r_set (slL_hiX (R := rStr) (xs := words) (T := fun d => 1 ≤ d ∧ d ≤ 3) (EvP.of_nw (lst_ (R := rStr) (pa1 (const (by unfold sOk; decide +kernel)) (pa1 (const (by unfold sOk; decide +kernel)) (pa1 (const (by unfold sOk; decide +kernel)) pa0))) (by decide))) ?_) fun v5 H4 e4 ⟨W, wsl, ev, _, ⟨d, hd, ewsl⟩, rW⟩ => ?_
  · intro H4 e4 Q2 q2
    exact (draw_ (n := 3) (by decide) (by decide) (var (i := 0) (R := rPot) rfl (up (R := rPot) (e03.trans e4) r1)) Evl.ev_c) H4 (Ex.refl _) _ fun v H5 e5 ⟨d, hd, ev⟩ => by
      subst ev
      exact ⟨1, (d : Int), rfl, rfl, q2 _ H5 e5 ⟨1 + d, by omega, by show V.int (1 + (d : Int)) = V.int ((1 + d : Nat) : Int); congr 1⟩⟩
  subst ev
  have wok : WdOk wsl := by
    subst ewsl
    refine ⟨fun z => ?_, fun w hw => List.mem_of_mem_take hw, by rw [List.length_take]; omega⟩
    have := congrArg List.length z
    rw [List.length_take] at this
    have hw : words.length = 3 := rfl
    rw [hw] at this
    simp at this
    omega
  have e04 := e03.trans e4
  have rO4 := up (R := rPts) e4 rO3
  refine r_set (P := someN (rLst rPt) fun ch => ch.length ≤ 8 ∧ ∀ p ∈ ch, p ∈ combos (nms rows) m) ?_ fun v6 H5 e5 ⟨Ch, ch, ev, _, ⟨chl, chm⟩, rCh⟩ => ?_
  · refine lcBind (Pq := isLt 9) (draw_ (n := 9) (by decide) (by decide) (var (i := 0) (R := rPot) rfl (up (R := rPot) e04 r1)) (Evl.ev_op (Evl.ev_var rfl) Evl.ev_c Evl.rv_I0)) fun H5 v H6 e6 ⟨n, hn, ev⟩ => ?_
    subst ev
    refine (lcS (R' := rPt) (fun _ => true) (fun _ p => p ∈ combos (nms rows) m) gm_name (i_range (n := (n : Int)) Evl.ev_c (by omega) (by omega)) (by show n ≤ 50000; omega) fun i x H7 hi e7 _ => ⟨Ex.refl _, rfl, et_yes, fun _ => EvP.flat (pick (R := rPt) (xs := combos (nms rows) m) (var rfl (up (R := rPts) (e6.trans e7) rO4)) (draw_ (n := (combos (nms rows) m).length) hc0 (by omega) (var (i := 0) (R := rPot) rfl (up (R := rPot) ((e04.trans e6).trans e7) r1)) (len_l (R := rPt) (var rfl (up (R := rPts) (e6.trans e7) rO4)))))⟩).imp fun _ _ _ _ _ ⟨a, ys, ev, hn3, hs, r⟩ => ?_
    obtain ⟨k1, k2⟩ := sel_all hs
    exact ⟨a, ys, ev, hn3, ⟨by rw [k1]; show n ≤ 8; omega, k2⟩, r⟩
  subst ev
  have e05 := e04.trans e5
  have rO5 := up (R := rPts) e5 rO4
  have rW5 := up (R := rLst rStr) e5 rW
  have ru5 := up (R := rUps) (e4.trans e5) ru3
  have hD5 := (e4.trans e5) D _ hD3
  let S := (combos (nms rows) m).filter fun p => isIn p ch
  have Spt : ∀ p ∈ S, Pt (nms rows) m p := fun p hp => mem_combos.mp (List.mem_filter.mp hp).1
  have Sso : Sorted (nms rows) S := (combos_sorted ok.good.nodup m).filter _
  have Sl : S.length ≤ 8 := Nat.le_trans (nodup_le Sso.nodup fun p hp => isIn_iff.mp (List.mem_filter.mp hp).2) chl
  have eB : Ex H2 (wo D H5) := wo_le (e3.trans (e4.trans e5)) hD
  have ruB : rUps (wo D H5) vu (upsOf rows) := up (R := rUps) (e2.trans eB) ru
  have rOB : rPts (wo D H5) (.ref O) (combos (nms rows) m) := up (R := rPts) eB rO
  have rCB : rPts (wo D H5) (.ref Ch) ch := wo_lst (R := rPt) hD5 rCh
  have rWB : rLst rStr (wo D H5) (.ref W) wsl := wo_lst (R := rStr) hD5 rW5
  have e0B : Ex H (wo D H5) := (e1.trans e2).trans eB
  refine sq (r_for (H := wo D H5) (j_new (R := rPt) (xs := S) (lcF (R := rPt) (xs := combos (nms rows) m) (fun p => isIn p ch) gm_name (i_list (var rfl rOB)) (by omega) fun k x vx H7 hx e7 rx => ⟨Ex.refl _, rfl, Evl.et_test (inD (R := rPt) (by decide) (var rfl rx) (var rfl (up (R := rPts) e7 rCB))), fun _ => (var rfl rx).flatI⟩)) wo_ex
    (fun j σ' H' => (∃ a b c x y, σ' = [some v1, some v2, some (V.int (m : Int)), some (V.int 8), some (V.ref W), some (V.ref Ch), a, some vu, some (V.ref O), some (V.ref D), b, c, x, y]) ∧ ∃ kvs made, H' D = some (.dT kvs) ∧ KvT rBodyN H' kvs made ∧ kys made = S.take j ∧ MsOk rows m made)
    (fun H6 e6 => ⟨⟨_, _, _, _, _, rfl⟩, [], [], e6 D _ hD5, .nil, rfl, ⟨⟨fun p h => (by cases h), List.Pairwise.nil, trivial, ⟨by decide, fun z h => (by cases h)⟩⟩, fun z h => (by cases h)⟩⟩) (fun Hn en hno j σ' H' hj hI eh v7 H6 e6 ⟨p, hp, rp⟩ => ?_) fun σ' H' hI eh => ?_)
  · obtain ⟨⟨a, b, c, x, y, rfl⟩, kvs, made, hk, rk, hky, mok, bods⟩ := hI
    have hDn : Hn D = none := hno D _ wo_none hD5 rfl
    have hk6 := e6 D _ hk
    have eB6 := (en.trans eh).trans e6
    have e06 := e0B.trans eB6
    have rk6 : KvT rBodyN H6 kvs made := pmap rk fun _ _ r => ⟨r.1, up (R := rBodyN) e6 r.2⟩
    have rM6 : rMadeN H6 (.ref D) made := ⟨D, kvs, rfl, hk6, rk6⟩
    have hpS : p ∈ S := List.mem_of_getElem? hp
    have hpp := Spt p hpS
    have few := mok.small.few
    have pn : p ∉ kys made := fun hm => by
      rw [hky] at hm
      obtain ⟨k, hk⟩ := List.mem_iff_getElem?.mp hm
      rw [List.getElem?_take] at hk
      split at hk
      · rename_i hlt
        exact List.pairwise_iff_getElem.mp Sso.nodup k j _ _ hlt ((List.getElem?_eq_some_iff.mp hk).2.trans (List.getElem?_eq_some_iff.mp hp).2.symm)
      · cases hk
    have hky2 : ∀ bd, kys (made ++ [(p, bd)]) = S.take (j + 1) := fun bd => by
      rw [List.take_add_one, hp, ← hky]
      simp [kys]
    have hkl : made.length = (S.take j).length := by rw [← hky]; exact (List.length_map _).symm
    dsimp only
    refine r_set (call_ (P := fun (i : MdI) => nw (rDitU rBody) (grown i.rows i.made)) ⟨rows, m, made, ok, h3, mok⟩ (ea3 (R := rUps) (S := rMade) (T := rPts) (var rfl (up (R := rUps) eB6 ruB)) (var rfl rM6.wk) (var rfl (up (R := rPts) eB6 rOB)))) fun v8 H7 e7 ⟨G, ev, _, rG⟩ => ?_
    subst ev
    have rM7 := up (R := rMadeN) e7 rM6
    have hnl : (near (leOf rows) (kys made) p).length ≤ 1000 := by
      have h1 := List.length_filter_le (fun one => !decide (one = p) && pLe (leOf rows) p one) (kys made)
      have h2 : (near (leOf rows) (kys made) p).length ≤ ((kys made).filter fun one => !decide (one = p) && pLe (leOf rows) p one).length := List.length_filter_le _ _
      have h3 : (kys made).length = made.length := List.length_map _
      omega
    refine r_setV (v := .bl (isOne (valsAt (grown rows made) (near (leOf rows) (kys made) p)))) (isone_ (by unfold valsAt; rw [List.length_map]; exact hnl) (EvP.of_nw (lcM (R := rPt) (R' := rBody) (xs := near (leOf rows) (kys made) p) (fun q => (at? (grown rows made) q).getD []) gm_name (i_list (EvP.of_nw (call_ (P := fun (i : NrI) => nw rPts (near (leOf i.rows) (kys i.made) i.s)) ⟨rows, m, made, p, ok.good, mok.pts, hpp, h3, by omega⟩ (ea3 (R := rUps) (S := rMade) (T := rPt) (var rfl (up (R := rUps) (eB6.trans e7) ruB)) (var rfl rM7.wk) (var rfl (up (R := rPt) e7 rp)))))) (by omega) ?_))) fun H8 e8 => ?_
    · intro k q vq H9 hq9 e9 rq
      have hqk : q ∈ (grown rows made).map (·.1) := by rw [grown_keys]; exact (mem_near (List.mem_of_getElem? hq9)).1
      obtain ⟨u, hu', _⟩ := at?_some hqk
      refine ⟨Ex.refl _, rfl, et_yes, EvP.flatI ?_⟩
      rw [hu']
      exact getT (R := rBody) (var rfl (rDitU.rd (up (R := rDitU rBody) e9 rG))) (var rfl rq) hu'
    · have e68 := e7.trans e8
      have hk8 := e68 D _ hk6
      refine (call_ (σ := [some v1, some v2, some (V.int (m : Int)), some (V.int 8), some (V.ref W), some (V.ref Ch), some v7, some vu, some (V.ref O), some (V.ref D), some (V.ref G), some (V.bl (isOne (valsAt (grown rows made) (near (leOf rows) (kys made) p)))), x, y]) (H := H8) (E := E0) (A := fun (i : {i : List Str × Bool // WdOk i.1}) => a3 rPot (rLst rStr) rBool () i.1.1 i.1.2) (P := fun (i : {i : List Str × Bool // WdOk i.1}) => some_ rBodyN fun bd => BodOk bd ∧ (nxt ∈ bd → i.1.2 = true)) ⟨(wsl, isOne (valsAt (grown rows made) (near (leOf rows) (kys made) p))), wok⟩
        (ea3 (te := tVar 0) (tf := tVar 4) (tg := tVar 11) (R := rPot) (S := rLst rStr) (T := rBool) (var rfl (up (R := rPot) (e06.trans e68) r1)) (var rfl (up (R := rLst rStr) (eB6.trans e68) rWB)) (Ev.b (Evl.ev_var rfl)))) H8 (Ex.refl _) _ fun v9 H9 e9 ⟨bd, ⟨bok, bn⟩, rb⟩ => ?_
      have hk9 := e9 D _ hk8
      obtain ⟨bp, ebp, hbp, _⟩ := rPt_at (up (R := rPt) (e68.trans e9) rp)
      subst ebp
      have rp9 := up (R := rPt) (e68.trans e9) rp
      have lk : kvs.length ≤ 8 := by have := plen rk; omega
      refine ⟨.ref D, rfl, .ref bp, rfl, D, _, rfl, .inr ⟨kvs, kT p, bp, hk9, rfl, hbp, Evl.sz_lt (by omega), rfl⟩, ⟨⟨_, _, _, _, _, rfl⟩, putK kvs (kT p) v9, made ++ [(p, bd)], upd_same, ?_, ?_, ?_⟩, Ex.mut (((eh.trans e6).trans e68).trans e9) hDn⟩
      · exact kapp pn (rPt_ok rp) (kupd hk9 rfl (pmap rk6 fun _ _ r => ⟨r.1, up (R := rBodyN) (e68.trans e9) r.2⟩)) (upT (R := rBodyN) (Tx.upd hk9 (fun _ k => by cases k) fun _ _ k => by cases k) rb)
      · exact hky2 bd
      · have k2 := hky2 bd
        have hb2 : ∀ z ∈ made ++ [(p, bd)], BodOk z.2 := fun z hz => by
          rcases List.mem_append.mp hz with hz | hz
          · exact bods z hz
          · rw [List.mem_singleton.mp hz]; exact bok
        have ks : kys made ++ [p] = S.take (j + 1) := by rw [← k2]; simp [kys]
        refine ⟨⟨fun q hq => ?_, ?_, ?_, small_of ?_ hb2⟩, hb2⟩
        · rw [k2] at hq
          exact Spt q (List.mem_of_mem_take hq)
        · rw [k2]
          exact List.Pairwise.sublist (List.take_sublist _ _) Sso
        · exact comp_snoc ok.good.grid (fun q hq => Spt q (List.mem_of_mem_take (by rw [← ks]; exact hq))) (by rw [show made.map (·.1) = kys made from rfl, ks]; exact List.Pairwise.sublist (List.take_sublist _ _) Sso) mok.comp fun h => bn h
        · rw [List.length_append]
          show made.length + 1 ≤ 8
          rw [hkl, List.length_take]
          have : j < S.length := hj
          omega
  · obtain ⟨⟨a, b, c, x, y, rfl⟩, kvs, made, hk, rk, hky, ms⟩ := hI
    dsimp only
    exact r_retV (Evl.ev_var rfl) fun H6 e6 => hq _ _ ((e0B.trans eh).trans e6) ⟨D, made, rfl, hD0, ms, D, kvs, rfl, e6 D _ hk, pmap rk fun _ _ r => ⟨r.1, up (R := rBodyN) e6 r.2⟩⟩
end
end FM

/-! ## FGuard -/
set_option Elab.async false
set_option linter.all false
set_option maxRecDepth 100000
set_option maxHeartbeats 2000000
/-! A promise that is kept where no repr is under way. -/
namespace FG
open PySem PySem.Spec PyProof.Rows L2
/-- as FnOk, at calls with no repr under way -/
structure FnG (P : Program) (w : World) (K : PySem.W.Frag) (mg : Str → Option Value) (base : Heap) (k : Nat) (f : Addr) (fd : FuncData) (ps : List Str) (sp : Sp) : Prop where
  len : ∀ vs H Q E, sp vs H Q E → vs.length = ps.length
  run : ∀ (A : Around) (outer : List Env) (s : Shared) (H : Hp) (args : Args) (us : List Value) (vs : List V) (Q : VK) (E : XK), A.guards = some [] → Room k A → Env0 P w K mg base A outer s H → BindsTo s fd args (ps.zip us) → Vals vs us → sp vs H Q E → codeAny (model P w) A (.call (.ref f) args) (CR CX0 outer P w H s Q E) s
section
variable {P : Program} {w : World} {K : PySem.W.Frag} {mg : Str → Option Value} {base : Heap}
theorem fnG {y qual : Str} {params : Arguments} {body : List Stmt} {scope : Scope} {dvs : List V} {kws : List (Str × V)} {f : Addr} {fd : FuncData} {N ps : List Str} {k : Nat} {sp : Sp} (F : FunD K y qual params body scope dvs kws f fd) (S : FnScope N ps scope) (len : ∀ vs H Q E, sp vs H Q E → vs.length = ps.length)
    (go : ∀ (cdv : Value) (A : Around) (outer : List Env) (s : Shared) (H : Hp) (vs : List V) (Q : VK) (E : XK), A.guards = some [] → Room k (cxOf CX0 P w K mg base N qual scope f cdv A outer s H E).A → sp vs H Q E → ∃ t, PSs (cxOf CX0 P w K mg base N qual scope f cdv A outer s H E) body t ∧ t { nx := fun _ H' => Q .non H', rt := Q } (start N vs) H) :
    FnG P w K mg base (k + 1) f fd ps sp := by
  obtain ⟨oc, od, dV, kV, doc, pm, an, cdv, ct, osl, rfl, lk, hcd, _, _⟩ := F.ex
  refine ⟨len, fun A outer s H args us vs Q E hg hr e0 hb r hsp => ?_⟩
  have hl := len _ _ _ _ hsp
  have kept : ∀ {b : Addr} {o : Obj}, base.get? b = some o → s.heap.get? b = some o := fun e => (e0.bs _ _ e).1
  have KX : K.In s.heap := e0.mod.kin.keeps fun _ _ e => kept e
  have kinds : ∀ z ∈ ps.zip us, scope.names.lookup z.1 = some .local ∨ (scope.names.lookup z.1 = some .cell ∧ ((cellsFrom (s.heap.objs.size + 1) scope.names []).lookup z.1).isSome = true) := by
    rintro ⟨n, v⟩ hz
    exact (S.par n (List.of_mem_zip hz).1).elim .inl fun q => .inr ⟨q, PySem.W.cellsFrom_some _ _ _ (.inl q)⟩
  refine codeAny_call_function hr.depth (KX _ _ lk) rfl S.co S.gen rfl (PySem.W.codeRec_of KX hcd) (hb _ _ _ _ (wpAny_newFunctionEnv_cells S.kind kinds fun env he s1 x => ?_))
  subst he
  refine ⟨(e0.mod.nolimit.keeps fun _ _ e => kept e).keeps x.toInCall.keep, codeAny_func ?_⟩
  obtain ⟨t, ht, hq⟩ := go cdv A outer s H vs Q E hg (hr.deeper _) hsp
  refine wpAny_mono (ht.run [] s1 (start N vs) H _ (inv_start S hr.hd e0 hl r x) hq) (fun fl s' hs => ?_) fun _ _ z => z
  cases fl with
  | ret u => obtain ⟨v, _, H', J, rv, q⟩ := hs; exact ⟨v, H', J.os, J.bare, J.base, J.hok, rv, q⟩
  | next => obtain ⟨_, H', J, q⟩ := hs; exact ⟨V.non, H', J.os, J.bare, J.base, J.hok, rfl, q⟩
  | brk => exact (hs.choose_spec.choose_spec.2 : False).elim
  | cont => exact (hs.choose_spec.choose_spec.2 : False).elim
/-- the module's def x keeps such a promise -/
structure GFnG (P : Program) (w : World) (K : PySem.W.Frag) (mg : Str → Option Value) (base : Heap) (x : Str) (k : Nat) (sp : Sp) : Prop where
  ex : ∃ f fd ps, mg x = some (.ref f) ∧ PySem.W.keepIn K (.ref f) = true ∧ FnG P w K mg base k f fd ps sp ∧ Binds K fd ps []
theorem run_G {X : Cx} {pins : List (Addr × Obj)} {σ : L2.St} {H : Hp} {s : Shared} {Q : VK} {k : Nat} {f : Addr} {fd : FuncData} {ps : List Str} {sp : Sp} {us : List Value} {vs : List V} (F : FnG X.prog X.w X.K X.mg X.base k f fd ps sp) (hg : X.A.guards = some []) (hr : Room k X.A) (hb : Binds X.K fd ps []) (I : Inv X pins σ H s) (r : Vals vs us) (h : sp vs H Q E0) :
    wpAny (model X.prog X.w) X.A (call (.ref f) us) (EP X pins σ Q) X.xe s := by
  have l : us.length = ps.length := by rw [← r.length]; exact F.len _ _ _ _ h
  have b := hb s us I.kIn (by rw [List.append_nil]; exact l)
  rw [List.append_nil] at b
  refine wpAny_call (codeAny_mono (F.run X.A X.stack s H ⟨us, []⟩ us vs Q E0 hg hr I.env0 b r h) fun a s' hq => ?_)
  cases a with
  | error e => exact pass0 pins σ H s e s' I hq
  | ok fl => cases fl with
    | ret u => exact I.after hq
    | next => exact hq.elim
    | brk => exact hq.elim
    | cont => exact hq.elim
theorem kcallG {X : Cx} {x : Str} {k j : Nat} {sp : Sp} {e : Expr} {es : List Expr} {t : TA} {p pos : Pos} (G : GFnG P w K mg base x k sp) (hgd : X.A.guards = some []) (hr : Room j X.A) (ha : PA X (e :: es) t) (cn : FM.Cn X P w K mg base := by exact ⟨rfl, rfl, rfl, rfl, rfl⟩) (hkj : k ≤ j := by decide) (hg : Gl X x := by rfl) (hdb : (x == ("__debug__" : Str)) = false := by decide)
    (he : starEach (e :: es) X.env = (false, eval e X.env) :: starEach es X.env := by rfl) (hpl : (backTo pos (starEach es X.env)).any (·.1) = false := by rfl) : PE X (.Call (.Name x p) (e :: es) [] pos) (tCall sp [] E0 t) := by
  obtain ⟨rfl, rfl, rfl, rfl, rfl⟩ := cn
  obtain ⟨f, fd, ps, hm, hk, F, hb⟩ := G.ex
  refine ⟨fun pins s σ H Q I h => wpAny_Call_Name_kw (ld_glob I hg hm ?_ hdb)⟩
  refine PySem.W.callWith_K (h₀ := X.base) I.ok.mod.kin hk (thn (ha.run pos pins s σ H _ I h) fun us s1 ⟨vs, H1, I1, r, q⟩ => ⟨I1.kIn, ?_⟩) he hpl
  exact run_G F hgd (hr.mono hkj) hb I1 r (by
    have q : sp (vs ++ []) H1 Q E0 := q
    rw [List.append_nil] at q
    exact q)
end
end FG

/-! ## FRepr -/
set_option Elab.async false
set_option linter.all false
set_option maxRecDepth 100000
set_option maxHeartbeats 2000000
/-! repr of plain data and of a bool. -/
namespace FG
open PySem PySem.Spec PyProof.Rows L2
def rRepr (K : PySem.W.Frag) : List V → Hp → VK → Prop := fun xs H Q => (∃ (a : Addr) (d : PyData), xs = [.ref a] ∧ Dp K H (.ref a) d ∧ d.showable = true ∧ d.hasDict = false ∧ d.depth ≤ 60 ∧ d.shown.length ≤ sizeLine ∧ Q (.str d.shown) H) ∨ ∃ b : Bool, xs = [.bl b] ∧ Q (.str (if b then "True" else "False")) H
theorem k_repr {X : Cx} (K : PySem.W.Frag) (hg : X.A.guards = some []) (hu : X.A.units + 65 < cLine) (ek : X.K = K := by rfl) : CallR X (.builtin "repr") (rRepr K) := by
  subst ek
  intro pins s σ H xs us Q I r h
  rcases h with ⟨a, d, rfl, hd, hs, hn, hp, hz, q⟩ | ⟨b, rfl, q⟩
  · obtain ⟨u, rfl, ru⟩ := vals1 r
    obtain ⟨as, rd⟩ := Dp.reads I d _ u hd ru
    cases ru
    exact repr_of_reads' rd hs (PyData.noDict_hsm hn) hg (by omega) (fun _ _ e => e) (fun h' t tk hk => ⟨.str d.shown, H, I.kept hk, ⟨t, rfl⟩, q⟩) hz
  · obtain ⟨u, rfl, ru⟩ := vals1 r
    cases (show u = Value.bool b from ru)
    exact PySem.P.repr_of_bool ⟨.str (if b then "True" else "False"), H, I.tok _, ⟨_, rfl⟩, q⟩
end FG

/-! ## FShown -/
set_option Elab.async false
set_option linter.all false
set_option maxRecDepth 100000
set_option maxHeartbeats 2000000
/-! The text of a list of points is not too long. -/
namespace FM
open PySem PySem.Spec PyProof.Rows L2
theorem piled_le {B : Nat} : ∀ ts : List Str, (∀ t ∈ ts, t.length ≤ B) → piled ts ≤ ts.length * (B + 2)
  | [], _ => Nat.zero_le _
  | t :: ts, h => by
    have ih := piled_le ts fun z hz => h z (by simp [hz])
    have := h t (by simp)
    rw [piled_cons, List.length_cons, Nat.succ_mul]
    omega
theorem listText_le {B : Nat} (ts : List Str) (h : ∀ t ∈ ts, t.length ≤ B) : (listText ts).length ≤ ts.length * (B + 2) + 2 := by
  have hp := piled_le ts h
  have e : (listText ts).length = (textFrom 0 "[" ts).length + 1 := by
    show (textFrom 0 "[" ts ++ "]").length = _
    rw [strLen_append]
    rfl
  cases ts with
  | nil => rw [e]; show 1 + 1 ≤ _; omega
  | cons t r =>
    have z := textFrom_length_pos r 1 (("[" : Str) ++ (if (0 : Nat) > 0 then ", " else "" : String) ++ t) (Nat.succ_pos 0)
    have y : (textFrom 0 "[" (t :: r)).length = (textFrom 1 (("[" : Str) ++ (if (0 : Nat) > 0 then ", " else "" : String) ++ t) r).length := rfl
    have x : ((("[" : Str) ++ (if (0 : Nat) > 0 then ", " else "" : String) ++ t)).length = 1 + t.length := by
      rw [strLen_append, strLen_append]
      rfl
    rw [piled_cons] at hp
    omega
theorem tupleText_le {B : Nat} (ts : List Str) (h : ∀ t ∈ ts, t.length ≤ B) : (tupleText ts).length ≤ ts.length * (B + 2) + 3 := by
  have hp := piled_le ts h
  unfold tupleText
  rw [strLen_append, strLen_append]
  have e1 : ((("(" : String) : Str)).length = 1 := rfl
  have e3 : (((if ts.length == 1 then ",)" else ")" : String) : Str)).length ≤ 2 := by split <;> decide
  cases ts with
  | nil => rw [e1]; show 1 + 0 + _ ≤ _; omega
  | cons t r =>
    have := join_length_add (t :: r) (by simp)
    rw [e1]
    omega
theorem shownAll_map : ∀ xs : List PyData, PyData.shownAll xs = xs.map PyData.shown
  | [] => by simp only [PyData.shownAll, List.map_nil]
  | x :: xs => by simp only [PyData.shownAll, List.map_cons, shownAll_map xs]
/-- names that are short, texts that may be laid -/
def Short (p : List Str) : Prop := p.length ≤ 3 ∧ ∀ x ∈ p, x.length ≤ 8 ∧ sOk x
theorem shown_pt {p : List Str} (h : Short p) : (PyData.shown (Dat.enc rPt p)).length ≤ 300 := by
  have e : PyData.shown (Dat.enc rPt p) = tupleText (p.map fun x => reprText x) := by
    show PyData.shown (.tuple (p.map fun x => PyData.str x)) = _
    simp only [PyData.shown, shownAll_map, List.map_map]
    rfl
  rw [e]
  have z := tupleText_le (B := 82) (p.map fun x => reprText x) fun t ht => by
    obtain ⟨x, hx, rfl⟩ := List.mem_map.mp ht
    obtain ⟨h1, h2⟩ := h.2 x hx
    have h3 : ∀ c ∈ x.cps.toList, c < 16 ^ 8 := fun c hc => by
      have h4 : x.cps.all (· < 0x110000) = true := h2
      rw [← Array.all_toList, List.all_eq_true] at h4
      have := of_decide_eq_true (h4 c hc)
      omega
    have := PySem.StrLaws.reprText_len x h3
    omega
  rw [List.length_map] at z
  have := h.1
  omega
theorem shown_pts {ps : List (List Str)} (hl : ps.length ≤ 8000) (h : ∀ p ∈ ps, Short p) : (PyData.shown (Dat.enc rPts ps)).length ≤ sizeLine := by
  have e : PyData.shown (Dat.enc rPts ps) = listText (ps.map fun p => PyData.shown (Dat.enc rPt p)) := by
    show PyData.shown (.list (ps.map fun p => Dat.enc rPt p)) = _
    simp only [PyData.shown, shownAll_map, List.map_map]
    rfl
  rw [e]
  have z := listText_le (B := 300) (ps.map fun p => PyData.shown (Dat.enc rPt p)) fun t ht => by
    obtain ⟨p, hp, rfl⟩ := List.mem_map.mp ht
    exact shown_pt (h p hp)
  rw [List.length_map] at z
  have : sizeLine = 16777216 := by rw [sizeLine_eq]
  omega
end FM

/-! ## FRight -/
set_option Elab.async false
set_option linter.all false
set_option maxRecDepth 100000
set_option maxHeartbeats 2000000
/-! One table is right. -/
namespace FM
open PySem PySem.Spec PyProof.Rows L2
open Evl (Ex EvT Ev)
theorem showableAll_all : ∀ xs : List PyData, (∀ x ∈ xs, x.showable = true) → PyData.showableAll xs = true
  | [], _ => by simp only [PyData.showableAll]
  | x :: xs, h => by simp only [PyData.showableAll, h x (by simp), showableAll_all xs fun y hy => h y (by simp [hy]), Bool.and_self]
theorem showable_pts (ps : List (List Str)) : PyData.showable (Dat.enc rPts ps) = true := by
  show PyData.showable (.list (ps.map fun p => PyData.tuple (p.map fun x => PyData.str x))) = true
  simp only [PyData.showable]
  refine showableAll_all _ fun d hd => ?_
  obtain ⟨p, _, rfl⟩ := List.mem_map.mp hd
  simp only [PyData.showable]
  refine showableAll_all _ fun d hd => ?_
  obtain ⟨x, _, rfl⟩ := List.mem_map.mp hd
  simp only [PyData.showable]
theorem noDictAll : ∀ xs : List PyData, (∀ x ∈ xs, x.hasDict = false) → PyData.hasDictAll xs = false
  | [], _ => by simp only [PyData.hasDictAll]
  | x :: xs, h => by simp only [PyData.hasDictAll, h x (by simp), noDictAll xs fun y hy => h y (by simp [hy]), Bool.or_self]
theorem noDict_pts (ps : List (List Str)) : PyData.hasDict (Dat.enc rPts ps) = false := by
  show PyData.hasDict (.list (ps.map fun p => PyData.tuple (p.map fun x => PyData.str x))) = false
  simp only [PyData.hasDict]
  refine noDictAll _ fun d hd => ?_
  obtain ⟨p, _, rfl⟩ := List.mem_map.mp hd
  simp only [PyData.hasDict]
  refine noDictAll _ fun d hd => ?_
  obtain ⟨x, _, rfl⟩ := List.mem_map.mp hd
  simp only [PyData.hasDict]
section
variable {K : PySem.W.Frag} {σ : L2.St} {H : Hp} {te : TE}
theorem reprB {b : Bool} (h : Ev te σ H (.bl b)) : Ev (tCB (FG.rRepr K) (tCons te tNil)) σ H (.str (if b then "True" else "False")) := fun H1 e Q q => h H1 e _ fun H2 e2 => .inr ⟨b, rfl, q H2 e2⟩
theorem reprD {ps : List (List Str)} (hl : ps.length ≤ 8000) (hs : ∀ p ∈ ps, Short p) (h : EvP te σ H (is rPts ps)) : Ev (tCB (FG.rRepr K) (tCons te tNil)) σ H (.str (PyData.shown (Dat.enc rPts ps))) := fun H1 e Q q =>
  h H1 e _ fun v H2 e2 r => by
    obtain ⟨a, us, ev, hv, ru⟩ := id r
    subst ev
    refine .inl ⟨a, Dat.enc rPts ps, rfl, Dat.dp (R := rPts) r, showable_pts ps, noDict_pts ps, Nat.le_trans (Dat.depth (R := rPts) ps) (by decide), shown_pts hl hs, q H2 e2⟩
end
section
variable {K : PySem.W.Frag} {σ : L2.St} {H : Hp} {ta : TE} {D : Ends}
theorem r_reverse {l : Addr} {vs : List V} (hl : H l = some (.lst vs)) (ho : Ev ta σ H (.ref l)) (k : ∀ H1, Ex H H1 → D.nx σ (upd H1 l (.lst vs.reverse))) : tDrop (tBM K "list" rReverse ta tNil) D σ H :=
  ho H (Ex.refl _) _ fun H1 e1 => ⟨.inl ⟨rfl, vs, .inl (.inl (e1 l _ hl))⟩, l, vs, rfl, rfl, e1 l _ hl, k H1 e1⟩
end
/-- each of the highest is a highest common point of two methods -/
theorem due_hit {rows : Rows Str} {m : Nat} {made : Made} (good : Good rows) (pts : ∀ p ∈ kys made, Pt (nms rows) m p) {p : List Str} (hp : p ∈ due rows m made) : ∃ a ∈ kys made, ∃ b ∈ kys made, meets rows m p a b := by
  classical
  let Tst : List Str → Prop := fun r => ambOf rows made r = true ∧ ∃ (i j : Nat) (a b : List Str), j < i ∧ (kys made)[i]? = some a ∧ (kys made)[j]? = some b ∧ r ∈ hcp (nms rows) (leOf rows) a b
  let C := (combos (nms rows) m).filter fun r => decide (Tst r)
  have c : Commons (nms rows) (leOf rows) (kys made) (exOf rows made) C := ⟨fun r => by
    show r ∈ (combos (nms rows) m).filter (fun r => decide (Tst r)) ↔ Tst r
    rw [List.mem_filter, decide_eq_true_iff]
    refine ⟨fun h => h.2, fun h => ⟨?_, h⟩⟩
    obtain ⟨_, i, j, a, b, _, ha, hb, hr⟩ := h
    exact mem_combos.mpr ((mem_hcp good.grid (pts a (List.mem_of_getElem? ha)) (pts b (List.mem_of_getElem? hb))).mp hr).1⟩
  refine due_meet good.grid pts c ?_
  rw [due_eq good.grid pts c]
  exact hp
section
variable {P : Program} {w : World} {K : PySem.W.Frag} {mg : Str → Option Value} {base : Heap}
structure RiI extends MtI where
  nmok : ∀ r ∈ rows, NameOk r.1
abbrev sp__law_right : Sp := spOf (fun (i : RiI) => a3 rRows rInt rMadeN i.rows (i.m : Int) i.made) fun _ => is rBool true
theorem ok__law_right (T : Txt K mg) (G__law_ups : GFn P w K mg base "_law_ups" 2 sp__law_ups) (G__law_all_points : GFn P w K mg base "_law_all_points" 1 sp__law_all_points)
    (G__law_expansions : GFn P w K mg base "_law_expansions" 4 sp__law_expansions) (G__law_answer : GFn P w K mg base "_law_answer" 4 sp__law_answer) (G__law_highest : GFn P w K mg base "_law_highest" 2 sp__law_highest) (G__law_is_meet : GFn P w K mg base "_law_is_meet" 3 sp__law_is_meet)
    (G_Hierarchy : GMk P w K mg base "Hierarchy" 3 (sp_Hier K)) (G_MethodTable : GMk P w K mg base "MethodTable" 9 (sp_MT K)) (G_conflicts : GFn P w K mg base "conflicts" 11 (sp_conf (K := K))) (G_is_settled : GFn P w K mg base "is_settled" 11 (sp_set (K := K))) : FG.GFnG P w K mg base "_law_right" 12 sp__law_right := by
  obtain ⟨fd, F⟩ := T.d__law_right
  have sc := (C8.fnScope_by (N := ["_law_rows", "_law_many", "_law_made", "_law_grown", "_law_unclear", "_law_due", "_law_book", "_law_told", "_law_ups_here", "_law_order", "_law_spot"]) (P := ["_law_rows", "_law_many", "_law_made"]) (sc := defScope st__law_right) (by kernel_rfl))
  refine ⟨_, fd, _, T.g__law_right, F.kp, FG.fnG F sc (fun vs H Q E ⟨i, ⟨_, _, _, e, _⟩, _⟩ => by rw [e]; rfl) ?_, (F.bindsN fun _ _ _ _ _ _ us hl => match us, hl with | [_, _, _], _ => rfl)⟩
  intro cdv A outer s H vs Q E hgA hr ⟨i, ⟨v1, v2, v3, e, r1, r2, r3⟩, hq⟩
  have nd := sc.nd
  have hu65 := u65 hr
  have hu64 := u64 hr
  have hg : (cxOf CX0 P w K mg base ["_law_rows", "_law_many", "_law_made", "_law_grown", "_law_unclear", "_law_due", "_law_book", "_law_told", "_law_ups_here", "_law_order", "_law_spot"] "_law_right" (defScope st__law_right) (He.ga K "_law_right") cdv A outer s H E).A.guards = some [] := hgA
  subst e
  refine ⟨_, (PSs.nox (pss_cons (ps_asg (pe_tup (pa_cons (kcall G__law_ups hr (pa_cons (pv 0) pa_nil)) (pa_cons (kcall G__law_all_points hr (pa_cons (pv 0) (pa_cons (pv 1) pa_nil))) pa_nil))) (k_gtup K (n := 2) (pgs_cons (pg_name (i := 8) nd (by rfl) (by first | exact Or.inl rfl | exact Or.inr rfl)) (pgs_cons (pg_name (i := 9) nd (by rfl) (by first | exact Or.inl rfl | exact Or.inr rfl)) pgs_nil))))
      (pss_cons (ps_set (i := 3) nd (by rfl) (by first | exact Or.inl rfl | exact Or.inr rfl) (kcall G__law_expansions hr (pa_cons (pv 8) (pa_cons (pv 2) (pa_cons (pv 9) pa_nil)))))
      (pss_cons (ps_setLc (i := 4) (own := [("_law_spot", 10)]) (by rfl) nd (by rfl) (by rfl) (sw_true (by rfl) (by rfl) (by rfl) (by kernel_rfl)) (k_pil K (pv 9)) (blkOk_by (by kernel_rfl)) (fun _ _ _ _ _ => (pg_name (i := 10) nd (by rfl) (by first | exact Or.inl rfl | exact Or.inr rfl))) (fun _ _ _ _ _ => (pts_one (pt_cmpR op_eq (pe_ix (k_ixT K) (kcall G__law_answer hr (pa_cons (pv 8) (pa_cons (pv 2) (pa_cons (pv 3) (pa_cons (pv 10) pa_nil))))) pe_int (by intro _ _; rfl)) pe_str (nomark _)))) (fun _ _ _ _ _ => (pv 10)))
      (pss_cons (ps_set (i := 5) nd (by rfl) (by first | exact Or.inl rfl | exact Or.inr rfl) (kcall G__law_highest hr (pa_cons (pv 8) (pa_cons (pv 4) pa_nil))))
      (pss_cons (ps_set (i := 6) nd (by rfl) (by first | exact Or.inl rfl | exact Or.inr rfl) (kmake G_MethodTable hr (pa_cons (kmake G_Hierarchy hr (pa_cons (pv 0) pa_nil)) (pa_cons (pv 1) (pa_cons (pv 2) pa_nil)))))
      (pss_cons (ps_set (i := 7) nd (by rfl) (by first | exact Or.inl rfl | exact Or.inr rfl) (kcall G_conflicts hr (pa_cons (pv 6) pa_nil)))
      (pss_cons (ps_if (PW.pt (pw_or (pt_cmpR op_ne (pe_callB (FG.k_repr K hg hu65) (by rfl) T.repr (by decide +kernel) (pa_cons (pv 7) pa_nil)) (pe_callB (FG.k_repr K hg hu65) (by rfl) T.repr (by decide +kernel) (pa_cons (pv 5) pa_nil)) (nomark _)) (pw_or1 (pt_cmpR op_ne (pe_callB (FG.k_repr K hg hu65) (by rfl) T.repr (by decide +kernel) (pa_cons (kcall G_is_settled hr (pa_cons (pv 6) pa_nil)) pa_nil)) (pe_callB (FG.k_repr K hg hu65) (by rfl) T.repr (by decide +kernel) (pa_cons (pe_cmpR (k_eqD K hu64) (pv 4) (pe_lst pa_nil) (nomark _)) pa_nil)) (nomark _))))) (pss_one (ps_ret pe_bl)) pss_nil)
      (pss_cons (ps_if (pt_not (pt_val (pe_callB (k_all K) (by rfl) T.all (by decide +kernel) (pa_cons (pe_lc (own := [("_law_spot", 10)]) (by rfl) nd (k_pil K (pe_slice (k_slL K) (pv 7) po_none (po_some pe_int))) (blkOk_by (by kernel_rfl)) (fun _ _ _ _ _ => (pg_name (i := 10) nd (by rfl) (by first | exact Or.inl rfl | exact Or.inr rfl))) (fun _ _ _ _ _ => pts_nil) (fun _ _ _ _ _ => (kcall G__law_is_meet hr (pa_cons (pv 8) (pa_cons (pv 9) (pa_cons (pv 2) (pa_cons (pv 10) pa_nil))))))) pa_nil)))) (pss_one (ps_ret pe_bl)) pss_nil)
      (pss_cons (ps_expr (k_bm K PySem.F.plainAttrs_list PySem.F.slot_list_append PySem.F.type_list_append mt_append (pv 7) (pa_cons pe_non pa_nil)))
      (pss_cons (ps_expr (k_bm0 K PySem.F.plainAttrs_list PySem.F.slot_list_reverse PySem.F.type_list_reverse mt_reverse (pv 7)))
      (pss_one (ps_ret (pe_cmpR op_eq (pe_callB (FG.k_repr K hg hu65) (by rfl) T.repr (by decide +kernel) (pa_cons (kcall G_conflicts hr (pa_cons (pv 6) pa_nil)) pa_nil)) (pe_callB (FG.k_repr K hg hu65) (by rfl) T.repr (by decide +kernel) (pa_cons (pv 5) pa_nil)) (nomark _))))))))))))))), ?_⟩
  obtain ⟨⟨rows, m, made, ok, h1, h3, mok, bods⟩, nmok⟩ := i
  have r1 : rRows H v1 rows := r1
  have r2 : v2 = .int (m : Int) := r2
  have r3 : rMadeN H v3 made := r3
  have nmok : ∀ r ∈ rows, NameOk r.1 := nmok
  subst r2
  have few := mok.small.few
  have hk8 : (kys made).length = made.length := List.length_map _
  have hlen : (nms rows).length ≤ 20 := by unfold nms; rw [List.length_map]; exact ok.len
  have hc8 := combos_le (m := m) hlen h3
  have hq : ∀ H', Ex H H' → Q (.bl true) H' := fun H' e => hq _ H' e rfl
  have pshort : ∀ p, Pt (nms rows) m p → Short p := fun p hp => ⟨by rw [hp.1]; exact h3, fun x hx => by
    obtain ⟨r, hr, rfl⟩ := List.mem_map.mp (hp.2 x hx)
    exact ⟨(nmok r hr).hi, name_sok (nmok r hr)⟩⟩
  have dl : (due rows m made).length ≤ 8000 := Nat.le_trans (List.length_filter_le _ _) (Nat.le_trans (List.length_filter_le _ _) hc8)
  have ds : ∀ p ∈ due rows m made, Short p := fun p hp => pshort p (mem_combos.mp (List.mem_filter.mp (mem_maxs.mp hp).1).1)
  refine sq ?_
  refine (call_ (σ := start ["_law_rows", "_law_many", "_law_made", "_law_grown", "_law_unclear", "_law_due", "_law_book", "_law_told", "_law_ups_here", "_law_order", "_law_spot"] [v1, .int (m : Int), v3]) (H := H) (E := E0) (A := fun (i : {rows : Rows Str // Rok rows}) => a1 rRows i.1) (P := fun (i : {rows : Rows Str // Rok rows}) => is rUps (upsOf i.1)) ⟨rows, ok⟩ (ea1 (te := tVar 0) (R := rRows) (var rfl r1))) H (Ex.refl _) _ fun vu H1 e1 ru => ?_
  refine (call_ (σ := start ["_law_rows", "_law_many", "_law_made", "_law_grown", "_law_unclear", "_law_due", "_law_book", "_law_told", "_law_ups_here", "_law_order", "_law_spot"] [v1, .int (m : Int), v3]) (H := H1) (E := E0) (A := fun (i : ApI) => a2 rRows rInt i.rows (i.m : Int)) (P := fun (i : ApI) => nw rPts (combos (nms i.rows) i.m)) ⟨rows, m, ok, h3⟩ (ea2 (te := tVar 0) (tf := tVar 1) (R := rRows) (S := rInt) (var rfl (up (R := rRows) e1 r1)) (Ev.i (Evl.ev_var rfl)))) H1 (Ex.refl _) _ fun vo H2 e2 ⟨O, evo, _, rO⟩ => ?_
  subst evo
  refine ⟨by show 2 ≤ sizeLine; decide, fun p hp => ⟨p, _, rfl, .inl (.inl upd_same), rfl, _, _, rfl, _, _, rfl, rfl, ?_⟩⟩
  have e3 : Ex H2 (upd H2 p (.tup [vu, .ref O])) := Ex.new hp
  dsimp only
  show tSeq _ _ _ [some v1, some (V.int (m : Int)), some v3, none, none, none, none, none, some vu, some (V.ref O), none] (upd H2 p (.tup [vu, .ref O]))
  generalize upd H2 p (.tup [vu, .ref O]) = H3 at e3
  have e03 : Ex H H3 := (e1.trans e2).trans e3
  have ru3 : rUps H3 vu (upsOf rows) := up (R := rUps) (e2.trans e3) ru
  have rO3 : rPts H3 (.ref O) (combos (nms rows) m) := up (R := rPts) e3 rO
  have rM3 : rMadeN H3 v3 made := up (R := rMadeN) e03 r3
  refine r_set (call_ (P := fun (i : MdI) => nw (rDitU rBody) (grown i.rows i.made)) ⟨rows, m, made, ok, h3, mok⟩ (ea3 (R := rUps) (S := rMade) (T := rPts) (var rfl ru3) (var rfl rM3.wk) (var rfl rO3))) fun v4 H4 e4 ⟨G, ev, _, rG⟩ => ?_
  subst ev
  refine r_set (P := nw rPts (unclear rows m made)) (lcF (R := rPt) (xs := combos (nms rows) m) (ambOf rows made) gm_name (i_list (var rfl (up (R := rPts) e4 rO3))) (by omega) ?_) fun v5 H5 e5 ⟨U, ev, _, rU⟩ => ?_
  · intro k x vx H5 hx e5 rx
    have hxp := mem_combos.mp (List.mem_of_getElem? hx)
    refine ⟨Ex.refl _, rfl, Evl.et_is (Evl.et_test (eqS (ixP0 (R := rStr) (S := rAny) (z := (told (valsOf rows made x), ())) (EvP.of_nw (call_ (P := fun (i : AnI) => nw (rPair rStr rAny) (told (valsOf i.rows i.made i.s), ())) ⟨rows, m, made, x, ok, h3, mok, hxp⟩ (ea4 (R := rUps) (S := rMade) (T := rDitU rBody) (U := rPt) (var rfl (up (R := rUps) (e4.trans e5) ru3)) (var rfl (up (R := rMadeN) (e4.trans e5) rM3).wk) (var rfl (up (R := rDitU rBody) e5 rG)) (var rfl rx))))) (const (by unfold sOk; decide +kernel)))) (told_amb rows made x), fun _ => (var rfl rx).flatI⟩
  subst ev
  have e35 := e4.trans e5
  refine r_set (call_ (P := fun (i : LoI) => nw rPts (highs (leOf i.rows) i.ps)) ⟨rows, m, unclear rows m made, ok.good, fun q hq => mem_combos.mp (List.mem_filter.mp hq).1, h3, Nat.le_trans (List.length_filter_le _ _) (by omega)⟩ (ea2 (R := rUps) (S := rPts) (var rfl (up (R := rUps) e35 ru3)) (var rfl rU))) fun v6 H6 e6 ⟨Du, ev, _, rDu⟩ => ?_
  subst ev
  have e36 := e35.trans e6
  have mt : MtI := ⟨rows, m, made, ok, h1, h3, mok, bods⟩
  refine r_set (make_ (S := rM K) (g := fun (i : MtI) => (i.rows, i.m, i.made)) ⟨rows, m, made, ok, h1, h3, mok, bods⟩ (ea3 (R := rH K) (S := rInt) (T := rMadeN) (EvP.of_nw (make_ (S := rH K) (g := fun (i : HiI) => i.1) ⟨rows, ok, nmok⟩ (ea1 (R := rRows) (var rfl (up (R := rRows) (e03.trans e36) r1))))) (Ev.i (Evl.ev_var rfl)) (var rfl (up (R := rMadeN) e36 rM3)))) fun v7 H7 e7 ⟨B, ev, _, rB⟩ => ?_
  subst ev
  have e37 := e36.trans e7
  have rDu7 := up (R := rPts) e7 rDu
  have rU7 : rPts H7 (.ref U) (unclear rows m made) := up (R := rPts) (e6.trans e7) rU
  have ru7 := up (R := rUps) e37 ru3
  have rO7 := up (R := rPts) e37 rO3
  have rM7 := up (R := rMadeN) e37 rM3
  refine r_set (call_ (P := fun (i : MtI) => nw rPts (due i.rows i.m i.made)) ⟨rows, m, made, ok, h1, h3, mok, bods⟩ (ea1 (R := rM K) (var rfl rB))) fun v8 H8 e8 ⟨Tl, ev, hTn, rT⟩ => ?_
  subst ev
  refine r_not (Evl.et_is (Evl.et_or (Evl.et_test (Evl.ev_op (reprD dl ds (var rfl rT)) (reprD dl ds (var rfl (up (R := rPts) e8 rDu7))) (Evl.rv_ne rfl))) fun _ => Evl.et_test (Evl.ev_op (reprB (bool_ (call_ (P := fun (i : MtI) => is rBool (decide (unclear i.rows i.m i.made = []))) ⟨rows, m, made, ok, h1, h3, mok, bods⟩ (ea1 (R := rM K) (var rfl (up (R := rM K) e8 rB)))))) (reprB (eqD (R := rPts) (by decide) (var rfl (up (R := rPts) e8 rU7)) (EvP.of_nw (lst_ (R := rPt) (xs := []) pa0 (by decide))))) (Evl.rv_ne rfl))) (by simp)) fun H9 e9 => ?_
  have e79 := e8.trans e9
  refine r_not (Evl.et_is (Evl.et_not (Evl.et_B (all_ (EvP.of_nw (lcM (R := rPt) (R' := rBool) (xs := (due rows m made).take 3) (fun _ => true) gm_name (i_list (EvP.of_nw (slL_hi (R := rPt) (m := 3) (var rfl (up (R := rPts) e9 rT)) Evl.ev_c))) ?_ ?_))))) ?_) fun H10 e10 => ?_
  · rw [List.length_take]; omega
  · intro k x vx H11 hx e11 rx
    exact ⟨Ex.refl _, rfl, et_yes, EvP.flatI (call_ (P := fun (_ : IsI) => is rBool true) ⟨rows, m, made, x, ok, h3, mok.pts, due_hit ok.good mok.pts (List.mem_of_mem_take (List.mem_of_getElem? hx))⟩ (ea4 (R := rUps) (S := rPts) (T := rMade) (U := rPt) (var rfl (up (R := rUps) (e79.trans e11) ru7)) (var rfl (up (R := rPts) (e79.trans e11) rO7)) (var rfl (up (R := rMadeN) (e79.trans e11) rM7).wk) (var rfl rx)))⟩
  · rw [List.all_map]; simp
  have e710 := e79.trans e10
  obtain ⟨T2, us, eT, hT, rus⟩ := up (R := rPts) (e9.trans e10) rT
  cases eT
  have rus : Paired (rPt H10) us (due rows m made) := rus
  have lus := plen rus
  refine sq (r_append (P := fun _ v _ => v = .non) hT (Evl.ev_var rfl) (.of_ev Evl.ev_c fun _ _ _ _ => rfl) (by omega) fun v9 H11 e11 ev => ?_)
  subst ev
  have e711 : Ex H7 (upd H11 Tl (.lst (us ++ [V.non]))) := Ex.mut (e710.trans e11) hTn
  have hT11 : upd H11 Tl (.lst (us ++ [V.non])) Tl = some (.lst (us ++ [V.non])) := upd_same
  dsimp only
  generalize upd H11 Tl (.lst (us ++ [V.non])) = H12 at e711 hT11
  refine sq (r_reverse hT11 (Evl.ev_var rfl) fun H13 e13 => ?_)
  have e713 : Ex H7 (upd H13 Tl (.lst (us ++ [V.non]).reverse)) := Ex.mut (e711.trans e13) hTn
  dsimp only
  generalize upd H13 Tl (.lst (us ++ [V.non]).reverse) = H14 at e713
  refine r_retV (v := .bl true) (Evl.ev_is (Evl.ev_op (reprD dl ds (EvP.of_nw (call_ (P := fun (i : MtI) => nw rPts (due i.rows i.m i.made)) ⟨rows, m, made, ok, h1, h3, mok, bods⟩ (ea1 (R := rM K) (var rfl (up (R := rM K) e713 rB)))))) (reprD dl ds (var rfl (up (R := rPts) e713 rDu7))) (Evl.rv_eq rfl)) (by simp)) fun H15 e15 => hq _ (((e03.trans e37).trans e713).trans e15)
end
end FM

/-! ## FJoin -/
set_option Elab.async false
set_option linter.all false
set_option maxRecDepth 100000
set_option maxHeartbeats 2000000
/-! The hierarchy with one more class: the same methods are a table there. -/
namespace FM
open PySem PySem.Spec PyProof.Rows L2
theorem extra_ok : NameOk "extra" := ⟨by decide +kernel, by decide +kernel, by decide +kernel⟩
theorem extra_five : ("extra" : Str).length = 5 := by decide +kernel
theorem Mok.more {rows : Rows Str} {m : Nat} {made : Made} {x : Str} {ps : List Str} (hx : x ∉ nms rows) (mok : Mok rows m made) : Mok (rows ++ [(x, ps)]) m made := by
  have key : ∀ y ∈ nms rows, ∀ z, leOf (rows ++ [(x, ps)]) y z = leOf rows y z := fun y hy z => leOf_keep fun e => hx (by have e : y = x := e; rw [← e]; exact hy)
  have nc : ∀ z ∈ made, near (leOf (rows ++ [(x, ps)])) (kys made) z.1 = near (leOf rows) (kys made) z.1 := fun z hz => near_congr mok.pts key (List.mem_map.mpr ⟨z, hz, rfl⟩)
  exact ⟨fun p hp => by rw [nms_snoc]; exact (mok.pts p hp).more, by rw [nms_snoc]; exact mok.sorted.more mok.pts, (comp_congr nc).mpr mok.comp, mok.small⟩
/-- the hierarchies of a turn -/
def LongOk (rows : Rows Str) (ps : List Str) (l : Rows Str) : Prop := l = rows ∨ (rows.length < 20 ∧ l = rows ++ [(("extra" : Str), ps)])
theorem fits_long {rows : Rows Str} {n m : Nat} {made : Made} {ps : List Str} {l : Rows Str} (k : KdOk rows n) (hn : n ≤ 20) (ms : MsOk rows m made) (sub : ∀ s ∈ ps, s ∈ nms rows) (nd : ps.Nodup) (h : LongOk rows ps l) : Rok l ∧ Mok l m made ∧ ∀ r ∈ l, NameOk r.1 := by
  rcases h with rfl | ⟨hl, rfl⟩
  · exact ⟨⟨k.good, Nat.le_trans k.len hn, k.sup⟩, ms.mok, fun r hr => (k.nm r hr).toNameOk⟩
  · have hx : ("extra" : Str) ∉ nms rows := fun hm => by
      obtain ⟨r, hr, e⟩ := List.mem_map.mp hm
      have := (k.nm r hr).ne5
      rw [e] at this
      exact this extra_five
    have hnl : (nms rows).length = rows.length := List.length_map _
    refine ⟨⟨.snoc k.good hx sub nd, by rw [List.length_append]; show rows.length + 1 ≤ 20; omega, fun r hr => ?_⟩, ms.mok.more hx, fun r hr => ?_⟩
    · rcases List.mem_append.mp hr with hr | hr
      · exact k.sup r hr
      · rw [List.mem_singleton.mp hr]
        have := nodup_le nd sub
        show ps.length ≤ 20
        omega
    · rcases List.mem_append.mp hr with hr | hr
      · exact (k.nm r hr).toNameOk
      · rw [List.mem_singleton.mp hr]
        exact extra_ok
end FM

/-! ## FLaw -/
set_option Elab.async false
set_option linter.all false
set_option maxRecDepth 100000
set_option maxHeartbeats 2000000
/-! The law itself. -/
namespace FM
open PySem PySem.Spec PyProof.Rows L2
open Evl (Ex EvT Ev)
def cases6 : List (Int × Int) := [(20, 1), (8, 1), (6, 1), (6, 2), (8, 2), (4, 3)]
theorem case_of {z : Int × Int} (h : z ∈ cases6) : ∃ n m : Nat, z = ((n : Int), (m : Int)) ∧ 0 < n ∧ n ≤ 20 ∧ 1 ≤ m ∧ m ≤ 3 := by
  unfold cases6 at h
  simp only [List.mem_cons, List.not_mem_nil, or_false] at h
  rcases h with rfl | rfl | rfl | rfl | rfl | rfl
  · exact ⟨20, 1, rfl, by decide, by decide, by decide, by decide⟩
  · exact ⟨8, 1, rfl, by decide, by decide, by decide, by decide⟩
  · exact ⟨6, 1, rfl, by decide, by decide, by decide, by decide⟩
  · exact ⟨6, 2, rfl, by decide, by decide, by decide, by decide⟩
  · exact ⟨8, 2, rfl, by decide, by decide, by decide, by decide⟩
  · exact ⟨4, 3, rfl, by decide, by decide, by decide, by decide⟩
section
variable {K : PySem.W.Frag} {σ : L2.St} {H : Hp} {ta tb : TE}
theorem pairII {i j : Int} (ha : Ev ta σ H (.int i)) (hb : Ev tb σ H (.int j)) : EvP (tTup (tCons ta (tCons tb tNil))) σ H (is (rPair rInt rInt) (i, j)) := EvP.of_nw (pair_ (R := rInt) (S := rInt) (Ev.i ha) (Ev.i hb))
end
section
variable {P : Program} {w : World} {K : PySem.W.Frag} {mg : Str → Option Value} {base : Heap}
abbrev sp_law : Sp := spOf (fun (xs : List Int) => a1 (rScr K) xs) fun _ => is rBool true
theorem law_keeps (T : Txt K mg) {fd : FuncData} (F : FunD K "law" "law" (defArgs st_law) (defBody st_law) (defScope st_law) [] [] (He.ga K "law") fd) (G__law_pot : GFn P w K mg base "_law_pot" 1 (sp__law_pot (K := K))) (G__law_draw : GFn P w K mg base "_law_draw" 1 sp__law_draw) (G__law_kinds : GFn P w K mg base "_law_kinds" 4 sp__law_kinds)
    (G__law_methods : GFn P w K mg base "_law_methods" 5 sp__law_methods) (G__law_mixed : GFn P w K mg base "_law_mixed" 2 sp__law_mixed) (G__law_right : FG.GFnG P w K mg base "_law_right" 12 sp__law_right) : FG.FnG P w K mg base 13 (He.ga K "law") fd ["_law_script"] (sp_law (K := K)) := by
  have sc := (C8.fnScope_by (N := ["_law_script", "_law_k", "_law_pot_here", "_law_rows", "_law_turn", "_law_most", "_law_many", "_law_made", "_law_parents", "_law_longer", "_law_some", "_law_row"]) (P := ["_law_script"]) (sc := defScope st_law) (by kernel_rfl))
  refine FG.fnG F sc (fun vs H Q E ⟨i, ⟨_, e, _⟩, _⟩ => by rw [e]; rfl) ?_
  intro cdv A outer s H vs Q E hgA hr ⟨xs, ⟨v1, e, r1⟩, hq⟩
  have nd := sc.nd
  have hg : (cxOf CX0 P w K mg base ["_law_script", "_law_k", "_law_pot_here", "_law_rows", "_law_turn", "_law_most", "_law_many", "_law_made", "_law_parents", "_law_longer", "_law_some", "_law_row"] "law" (defScope st_law) (He.ga K "law") cdv A outer s H E).A.guards = some [] := hgA
  subst e
  refine ⟨_, (PSs.nox (pss_cons (ps_for PassesOwn.never (by rfl) (k_range T.range (pa_cons (pe_callB (call_max2 (by rfl)) (by rfl) T.max (by decide +kernel) (pa_cons pe_int (pa_cons (pe_callB (call_min2 (by rfl)) (by rfl) T.min (by decide +kernel) (pa_cons pe_int (pa_cons (pe_callB (k_len K) (by rfl) T.len (by decide +kernel) (pa_cons (pv 0) pa_nil)) pa_nil))) pa_nil))) pa_nil)) (pg_name (i := 1) nd (by rfl) (by first | exact Or.inl rfl | exact Or.inr rfl)) (pss_cons (ps_set (i := 2) nd (by rfl) (by first | exact Or.inl rfl | exact Or.inr rfl) (kcall G__law_pot hr (pa_cons (pv 0) (pa_cons (pv 1) pa_nil))))
      (pss_cons (ps_asg (pe_ix (k_ixL K) (pe_lst (pa_cons (pe_tup (pa_cons pe_int (pa_cons pe_int pa_nil))) (pa_cons (pe_tup (pa_cons pe_int (pa_cons pe_int pa_nil))) (pa_cons (pe_tup (pa_cons pe_int (pa_cons pe_int pa_nil))) (pa_cons (pe_tup (pa_cons pe_int (pa_cons pe_int pa_nil))) (pa_cons (pe_tup (pa_cons pe_int (pa_cons pe_int pa_nil))) (pa_cons (pe_tup (pa_cons pe_int (pa_cons pe_int pa_nil))) pa_nil))))))) (kcall G__law_draw hr (pa_cons (pv 2) (pa_cons pe_int pa_nil))) (by intro _ _; rfl)) (k_gtup K (n := 2) (pgs_cons (pg_name (i := 5) nd (by rfl) (by first | exact Or.inl rfl | exact Or.inr rfl)) (pgs_cons (pg_name (i := 6) nd (by rfl) (by first | exact Or.inl rfl | exact Or.inr rfl)) pgs_nil))))
      (pss_cons (ps_set (i := 3) nd (by rfl) (by first | exact Or.inl rfl | exact Or.inr rfl) (kcall G__law_kinds hr (pa_cons (pv 2) (pa_cons (pv 5) pa_nil))))
      (pss_one (ps_for PassesOwn.never (by rfl) (k_range T.range (pa_cons pe_int pa_nil)) (pg_name (i := 4) nd (by rfl) (by first | exact Or.inl rfl | exact Or.inr rfl)) (pss_cons (ps_set (i := 7) nd (by rfl) (by first | exact Or.inl rfl | exact Or.inr rfl) (kcall G__law_methods hr (pa_cons (pv 2) (pa_cons (pv 3) (pa_cons (pv 6) (pa_cons pe_int pa_nil))))))
      (pss_cons (ps_set (i := 8) nd (by rfl) (by first | exact Or.inl rfl | exact Or.inr rfl) (pe_callTy (k_tuple_of K) (by rfl) T.tuple (by decide +kernel) (pa_cons (pe_slice (k_slL K) (kcall G__law_mixed hr (pa_cons (pv 2) (pa_cons (pe_lc (own := [("_law_row", 11)]) (by rfl) nd (k_pil K (pv 3)) (blkOk_by (by kernel_rfl)) (fun _ _ _ _ _ => (pg_name (i := 11) nd (by rfl) (by first | exact Or.inl rfl | exact Or.inr rfl))) (fun _ _ _ _ _ => pts_nil) (fun _ _ _ _ _ => (pe_ix (k_ixT K) (pv 11) pe_int (by intro _ _; rfl)))) pa_nil))) po_none (po_some (kcall G__law_draw hr (pa_cons (pv 2) (pa_cons pe_int pa_nil))))) pa_nil)))
      (pss_cons (ps_set (i := 9) nd (by rfl) (by first | exact Or.inl rfl | exact Or.inr rfl) (pe_ifExp (pt_cmpR op_lt (pe_callB (k_len K) (by rfl) T.len (by decide +kernel) (pa_cons (pv 3) pa_nil)) pe_int (nomark _)) (pe_op op_cat (pv 3) (pe_lst (pa_cons (pe_tup (pa_cons pe_str (pa_cons (pv 8) pa_nil))) pa_nil))) (pv 3)))
      (pss_one (ps_if (pt_not (pt_val (pe_callB (k_all K) (by rfl) T.all (by decide +kernel) (pa_cons (pe_lc (own := [("_law_some", 10)]) (by rfl) nd (k_pit K (pe_tup (pa_cons (pv 3) (pa_cons (pv 9) (pa_cons (pv 3) pa_nil))))) (blkOk_by (by kernel_rfl)) (fun _ _ _ _ _ => (pg_name (i := 10) nd (by rfl) (by first | exact Or.inl rfl | exact Or.inr rfl))) (fun _ _ _ _ _ => pts_nil) (fun _ _ _ _ _ => (FG.kcallG G__law_right hg hr (pa_cons (pv 10) (pa_cons (pv 6) (pa_cons (pv 7) pa_nil)))))) pa_nil)))) (pss_one (ps_ret pe_bl)) pss_nil)))))))))))
      (pss_one (ps_ret pe_bl)))), ?_⟩
  have r1 : rScr K H v1 xs := r1
  have hq : ∀ H', Ex H H' → Q (.bl true) H' := fun H' e => hq _ H' e rfl
  obtain ⟨M, hM3, hM⟩ : ∃ M : Nat, M ≤ 3 ∧ (if (if ((xs.length : Nat) : Int) < 3 then ((xs.length : Nat) : Int) else 3) > 1 then (if ((xs.length : Nat) : Int) < 3 then ((xs.length : Nat) : Int) else 3) else 1) = (M : Int) := by
    by_cases h1 : ((xs.length : Nat) : Int) < 3
    · rw [if_pos h1]
      by_cases h2 : ((xs.length : Nat) : Int) > 1
      · rw [if_pos h2]; exact ⟨xs.length, by omega, rfl⟩
      · rw [if_neg h2]; exact ⟨1, by omega, rfl⟩
    · rw [if_neg h1, if_pos (by decide)]; exact ⟨3, by omega, rfl⟩
  have hmm : Ev _ (start ["_law_script", "_law_k", "_law_pot_here", "_law_rows", "_law_turn", "_law_most", "_law_many", "_law_made", "_law_parents", "_law_longer", "_law_some", "_law_row"] [v1]) H (.int (M : Int)) := Evl.ev_is (max_ (i := 1) (j := if ((xs.length : Nat) : Int) < 3 then ((xs.length : Nat) : Int) else 3) Evl.ev_c (min_ (i := 3) (j := ((xs.length : Nat) : Int)) Evl.ev_c (len_scr (K := K) (te := tVar 0) (var (R := rScr K) rfl r1)))) (congrArg V.int hM)
  refine sq (r_for (H := H) (j_range (m := (M : Int)) hmm (by omega) (by omega)) (Ex.refl _)
    (fun j σ' H' => ∃ a b c d e f g h i k l, σ' = [some v1, a, b, c, d, e, f, g, h, i, k, l])
    (fun H1 e1 => ⟨_, _, _, _, _, _, _, _, _, _, _, rfl⟩) (fun Hn en hno j σ' H' hj hI eh v2 H1 e1 hy => ?_) fun σ' H' hI eh => ?_)
  · obtain ⟨a1, a2, a3, a4, a5, a6, a7, a8, a9, a10, a11, rfl⟩ := hI
    have hy : v2 = .int (j : Nat) := hy
    subst hy
    have hj : j < M := hj
    have e01 := (en.trans eh).trans e1
    dsimp only
    refine r_set (call_ (P := fun (_ : {i : List Int × Nat // i.2 ≤ 3}) => nw rPot ()) ⟨(xs, j), by show j ≤ 3; omega⟩ (ea2 (R := rScr K) (S := rInt) (var rfl (up (R := rScr K) e01 r1)) (Ev.i (Evl.ev_var rfl)))) fun v3 H2 e2 ⟨Pp, ev, _, rP⟩ => ?_
    subst ev
    refine sq ((pick (R := rPair rInt rInt) (xs := cases6) (EvP.of_nw (lst_ (R := rPair rInt rInt) (pa1 (pairII Evl.ev_c Evl.ev_c) (pa1 (pairII Evl.ev_c Evl.ev_c) (pa1 (pairII Evl.ev_c Evl.ev_c) (pa1 (pairII Evl.ev_c Evl.ev_c) (pa1 (pairII Evl.ev_c Evl.ev_c) (pa1 (pairII Evl.ev_c Evl.ev_c) pa0)))))) (by decide))) (draw_ (n := 6) (by decide) (by decide) (var (R := rPot) rfl rP) Evl.ev_c)) H2 (Ex.refl _) _ fun v4 H3 e3 ⟨z, hz, a, y1, y2, ev, ha, ry1, ry2⟩ => ?_)
    obtain ⟨n, m, rfl, hn0, hn20, h1, h3⟩ := case_of hz
    have ry1 : y1 = .int (n : Int) := ry1
    have ry2 : y2 = .int (m : Int) := ry2
    subst ev ry1 ry2
    refine ⟨a, _, rfl, .inl (.inl ha), rfl, _, _, rfl, _, _, rfl, rfl, ?_⟩
    dsimp only
    have rP3 := up (R := rPot) e3 rP
    refine r_set (call_ (P := fun (n : {n : Nat // 0 < n ∧ n ≤ 20}) => someN rRows fun rows => KdOk rows n.1 ∧ rows ≠ []) ⟨n, hn0, hn20⟩ (ea2 (R := rPot) (S := rInt) (var rfl rP3) (Ev.i (Evl.ev_var rfl)))) fun v5 H4 e4 ⟨L, rows, ev, _, ⟨kd, ne⟩, rR⟩ => ?_
    subst ev
    have rP4 := up (R := rPot) e4 rP3
    have e14 := (e2.trans e3).trans e4
    have rok : Rok rows := ⟨kd.good, Nat.le_trans kd.len hn20, kd.sup⟩
    have hnl : (nms rows).length ≤ 20 := by unfold nms; rw [List.length_map]; exact rok.len
    refine r_for (H := H4) (j_range (m := 3) Evl.ev_c (by decide) (by decide)) (Ex.refl _)
      (fun t σ' H' => ∃ b c d e f g, σ' = [some v1, some (V.int (j : Nat)), some (V.ref Pp), some (V.ref L), b, some (V.int (n : Int)), some (V.int (m : Int)), c, d, e, f, g])
      (fun H5 e5 => ⟨_, _, _, _, _, _, rfl⟩) (fun Hm em hmo t σ' H5 ht hI5 eh5 v6 H6 e6 hy6 => ?_) fun σ' H5 hI5 eh5 => ?_
    · obtain ⟨b1, b2, b3, b4, b5, b6, rfl⟩ := hI5
      have e46 := (em.trans eh5).trans e6
      have rP6 := up (R := rPot) e46 rP4
      have rR6 := up (R := rRows) e46 rR
      dsimp only
      refine r_set (call_ (P := fun (i : MsI) => someN rMadeN fun made => MsOk i.rows i.m made) ⟨rows, m, rok, ne, h1, h3⟩ (ea4 (R := rPot) (S := rRows) (T := rInt) (U := rInt) (var rfl rP6) (var rfl rR6) (Ev.i (Evl.ev_var rfl)) (Ev.i Evl.ev_c))) fun v7 H7 e7 ⟨D, made, ev, _, ms, rM⟩ => ?_
      subst ev
      have rP7 := up (R := rPot) e7 rP6
      have rR7 := up (R := rRows) e7 rR6
      refine r_set (P := some_ rPt fun p => ∃ (ys : List Str) (d : Nat), ys.Perm (nms rows) ∧ p = ys.take d) ?_ fun v8 H8 e8 ⟨ps, ⟨ys, d, hys, hps⟩, rp⟩ => ?_
      · refine someX (R := rLst rStr) (T := fun p => ∃ (ys : List Str) (d : Nat), ys.Perm (nms rows) ∧ p = ys.take d) (fun te => tCB (qTuple K) (tCons te tNil)) (fun _ _ _ _ => rfl) ?_ fun q v H8 hq8 e8 rq => (EvP.of_nw (tuple_l (R := rStr) (ev_is Evl.ev_c rq))).imp fun _ _ _ _ _ r => ⟨q, hq8, r⟩
        refine someX (R := rLst rStr) (T := fun ys => ys.Perm (nms rows)) (fun te => tSl (rSlL K) te tNoPart (tPart (tCall sp__law_draw [] E0 (tCons (tVar 2) (tCons (tC (.int 4)) tNil))))) (fun _ _ _ _ => rfl) ?_ fun ys v H8 hys e8 rq => (EvP.some_N (slL_hiX (R := rStr) (T := (· < 4)) (ev_is Evl.ev_c rq) (draw_ (n := 4) (by decide) (by decide) (var (R := rPot) rfl (up (R := rPot) e8 rP7)) Evl.ev_c))).imp fun _ _ _ _ _ ⟨x, ⟨d, _, hx⟩, r⟩ => ⟨x, ⟨ys, d, hys, hx⟩, r⟩
        refine EvP.some_N (call_ (P := fun (i : {xs : List Str // xs.length ≤ 20}) => someN (rLst rStr) (fun ys => ys.Perm i.1)) ⟨nms rows, hnl⟩ (ea2 (R := rPot) (S := rLst rStr) (var rfl rP7) (EvP.of_nw (lcM (R := rPair rStr rPt) (R' := rStr) (xs := rows) (fun r => r.1) gm_name (i_list (var rfl rR7)) (by have := rok.len; omega) ?_))))
        intro k r vr H9 hr e9 rr
        exact ⟨Ex.refl _, rfl, et_yes, EvP.flatI (ixP0 (R := rStr) (S := rPt) (var rfl rr))⟩
      have rR8 := up (R := rRows) e8 rR7
      have rM8 := up (R := rMadeN) e8 rM
      refine r_set (P := some_ rRows (LongOk rows ps)) ?_ fun v9 H9 e9 ⟨long, hlong, rL⟩ => ?_
      · refine if_ (b := decide (((rows.length : Nat) : Int) < 20)) (Evl.et_test (Evl.ev_op (len_l (R := rPair rStr rPt) (var rfl rR8)) Evl.ev_c Evl.rv_I0)) (fun hb => ?_) fun hb => ?_
        · have hb := of_decide_eq_true hb
          exact (EvP.of_nw (cat_l (R := rPair rStr rPt) (var rfl rR8) (EvP.of_nw (lst_ (R := rPair rStr rPt) (pa1 (EvP.of_nw (pair_ (R := rStr) (S := rPt) (x := "extra") (y := ps) (const (by unfold sOk; decide +kernel)) (var rfl rp))) pa0) (by show 1 ≤ 100000; decide))) (by show rows.length + 1 ≤ 100000; omega))).imp fun _ _ _ _ _ r => ⟨_, .inr ⟨by omega, rfl⟩, r⟩
        · exact (var (R := rRows) rfl rR8).imp fun _ _ _ _ _ r => ⟨rows, .inl rfl, r⟩
      · have fit : ∀ l ∈ [rows, long, rows], Rok l ∧ Mok l m made ∧ ∀ r ∈ l, NameOk r.1 := fun l hl => by
          have sub : ∀ s ∈ ps, s ∈ nms rows := fun s hs => by rw [hps] at hs; exact hys.subset (List.mem_of_mem_take hs)
          have ndp : ps.Nodup := by rw [hps]; exact List.Nodup.sublist (List.take_sublist _ _) (hys.nodup_iff.mpr kd.good.nodup)
          simp only [List.mem_cons, List.not_mem_nil, or_false] at hl
          rcases hl with rfl | rfl | rfl
          · exact fits_long kd hn20 ms sub ndp (.inl rfl)
          · exact fits_long kd hn20 ms sub ndp hlong
          · exact fits_long kd hn20 ms sub ndp (.inl rfl)
        refine r_notL (Evl.et_is (Evl.et_not (Evl.et_B (all_ (EvP.of_nw (lcM (R := rRows) (R' := rBool) (xs := [rows, long, rows]) (fun _ => true) gm_name (i_tup (EvP.tr (EvP.of_nw (tup_ (R := rRows) (pa1 (var rfl (up (R := rRows) e9 rR8)) (pa1 (var rfl rL) (pa1 (var rfl (up (R := rRows) e9 rR8)) pa0))) (by show 3 ≤ 100000; decide))))) (by show 3 ≤ 50000; decide) ?_))))) (by simp)) fun H10 e10 => ⟨⟨_, _, _, _, _, _, rfl⟩, ((((eh5.trans e6).trans e7).trans e8).trans e9).trans e10⟩
        intro k l vl H11 hl e11 rl
        obtain ⟨f1, f2, f3⟩ := fit l (List.mem_of_getElem? hl)
        exact ⟨Ex.refl _, rfl, et_yes, EvP.flatI (call_ (P := fun (_ : RiI) => is rBool true) ⟨⟨l, m, made, f1, h1, h3, f2, ms.bods⟩, f3⟩ (ea3 (R := rRows) (S := rInt) (T := rMadeN) (var rfl rl) (Ev.i (Evl.ev_var rfl)) (var rfl (up (R := rMadeN) (e9.trans e11) rM8))))⟩
    · obtain ⟨b1, b2, b3, b4, b5, b6, rfl⟩ := hI5
      exact ⟨⟨_, _, _, _, _, _, _, _, _, _, _, rfl⟩, ((eh.trans e1).trans e14).trans eh5⟩
  · obtain ⟨a1, a2, a3, a4, a5, a6, a7, a8, a9, a10, a11, rfl⟩ := hI
    dsimp only
    exact r_retV Evl.ev_c fun H1 e1 => hq _ (eh.trans e1)
end
end FM

/-! ## FEnd -/
set_option Elab.async false
set_option linter.all false
set_option maxRecDepth 100000
set_option maxHeartbeats 2000000
/-! All promises in a row, and the end (the chain is printed by genend.py). -/
namespace FM
open PySem PySem.Spec PyProof.Rows L2
section
variable {P : Program} {w : World} {K : PySem.W.Frag} {mg : Str → Option Value} {base : Heap}
theorem all_keep (T : Txt K mg) {fd : FuncData} (F : FunD K "law" "law" (defArgs st_law) (defBody st_law) (defScope st_law) [] [] (He.ga K "law") fd) : FG.FnG P w K mg base 13 (He.ga K "law") fd ["_law_script"] (sp_law (K := K)) := by
  have G__law_pot := ok__law_pot (P := P) (w := w) (base := base) T
  have G__law_draw := ok__law_draw (P := P) (w := w) (base := base) T
  have G__law_mixed := ok__law_mixed (P := P) (w := w) (base := base) T G__law_draw
  have G__law_name := ok__law_name (P := P) (w := w) (base := base) T G__law_draw
  have G__law_names := ok__law_names (P := P) (w := w) (base := base) T G__law_name
  have G__law_kinds := ok__law_kinds (P := P) (w := w) (base := base) T G__law_draw G__law_mixed G__law_names
  have G__law_above := ok__law_above (P := P) (w := w) (base := base) T
  have G__law_ups := ok__law_ups (P := P) (w := w) (base := base) T G__law_above
  have G__law_all_points := ok__law_all_points (P := P) (w := w) (base := base) T
  have G__law_is_under := ok__law_is_under (P := P) (w := w) (base := base) T
  have G__law_lowest := ok__law_lowest (P := P) (w := w) (base := base) T G__law_is_under
  have G__law_near := ok__law_near (P := P) (w := w) (base := base) T G__law_is_under G__law_lowest
  have G__law_is_one := ok__law_is_one (P := P) (w := w) (base := base) T
  have G__law_expansions := ok__law_expansions (P := P) (w := w) (base := base) T G__law_near G__law_is_one
  have G__law_body := ok__law_body (P := P) (w := w) (base := base) T G__law_draw
  have G__law_methods := ok__law_methods (P := P) (w := w) (base := base) T G__law_ups G__law_all_points G__law_draw G__law_expansions G__law_near G__law_is_one G__law_body
  have G__law_rivals := ok__law_rivals (P := P) (w := w) (base := base) T G__law_is_under G__law_lowest
  have G__law_answer := ok__law_answer (P := P) (w := w) (base := base) T G__law_rivals G__law_is_one
  have G__law_highest := ok__law_highest (P := P) (w := w) (base := base) T G__law_is_under
  have G__law_is_meet := ok__law_is_meet (P := P) (w := w) (base := base) T G__law_is_under G__law_highest
  have G_is_name := ok_is_name (P := P) (w := w) (base := base) T
  have G_are_different_classes := ok_are_different_classes (P := P) (w := w) (base := base) T
  have G_element_problem := ok_element_problem (P := P) (w := w) (base := base) T G_is_name G_are_different_classes
  have G_Hierarchy_ancestors_of_new := ok_Hierarchy_ancestors_of_new (P := P) (w := w) (base := base) T
  have G_Hierarchy := ok_Hierarchy (P := P) (w := w) (base := base) T G_element_problem G_Hierarchy_ancestors_of_new
  have G_MethodTable_is_count := ok_MethodTable_is_count (P := P) (w := w) (base := base) T
  have G_is_count := ok_is_count (P := P) (w := w) (base := base) T
  have G_Hierarchy_has_class := ok_Hierarchy_has_class (P := P) (w := w) (base := base) T
  have G_is_point := ok_is_point (P := P) (w := w) (base := base) T G_is_count G_Hierarchy_has_class
  have G_is_point_of_length := ok_is_point_of_length (P := P) (w := w) (base := base) T G_is_point
  have G_is_step := ok_is_step (P := P) (w := w) (base := base) T G_is_name
  have G_is_body := ok_is_body (P := P) (w := w) (base := base) T G_is_step
  have G_require_methods := ok_require_methods (P := P) (w := w) (base := base) T G_is_point_of_length G_is_body
  have G_require_points := ok_require_points (P := P) (w := w) (base := base) T G_is_point
  have G_Hierarchy_require_class := ok_Hierarchy_require_class (P := P) (w := w) (base := base) T G_Hierarchy_has_class
  have G_Hierarchy_names := ok_Hierarchy_names (P := P) (w := w) (base := base) T
  have G_Hierarchy_position_of := ok_Hierarchy_position_of (P := P) (w := w) (base := base) T G_Hierarchy_require_class G_Hierarchy_names
  have G_in_order := ok_in_order (P := P) (w := w) (base := base) T G_Hierarchy_position_of
  have G_listed := ok_listed (P := P) (w := w) (base := base) T G_require_points G_in_order
  have G_MethodTable_common_expansion := ok_MethodTable_common_expansion (P := P) (w := w) (base := base) T
  have G_Hierarchy_is_at_or_below := ok_Hierarchy_is_at_or_below (P := P) (w := w) (base := base) T G_Hierarchy_require_class
  have G_lies_at_or_below := ok_lies_at_or_below (P := P) (w := w) (base := base) T G_Hierarchy_is_at_or_below
  have G_lowest := ok_lowest (P := P) (w := w) (base := base) T G_listed G_lies_at_or_below
  have G_MethodTable_applicable_at := ok_MethodTable_applicable_at (P := P) (w := w) (base := base) T G_lies_at_or_below
  have G_MethodTable_just_above_at := ok_MethodTable_just_above_at (P := P) (w := w) (base := base) T G_lowest G_MethodTable_applicable_at
  have G_has_next_step := ok_has_next_step (P := P) (w := w) (base := base) T
  have G_replace_next := ok_replace_next (P := P) (w := w) (base := base) T G_has_next_step
  have G_MethodTable_expand := ok_MethodTable_expand (P := P) (w := w) (base := base) T G_MethodTable_common_expansion G_MethodTable_just_above_at G_has_next_step G_replace_next
  have G_MethodTable := ok_MethodTable (P := P) (w := w) (base := base) T G_MethodTable_is_count G_require_methods G_listed G_MethodTable_expand
  have G_MethodTable_hierarchy := ok_MethodTable_hierarchy (P := P) (w := w) (base := base) T
  have G_highest := ok_highest (P := P) (w := w) (base := base) T G_listed G_lies_at_or_below
  have G_MethodTable_points := ok_MethodTable_points (P := P) (w := w) (base := base) T
  have G_require_point_points := ok_require_point_points (P := P) (w := w) (base := base) T G_is_point
  have G_require_alike_points := ok_require_alike_points (P := P) (w := w) (base := base) T G_is_point G_require_point_points
  have G_combined := ok_combined (P := P) (w := w) (base := base) T
  have G_Hierarchy_descendants := ok_Hierarchy_descendants (P := P) (w := w) (base := base) T G_Hierarchy_require_class
  have G_Hierarchy_highest_common := ok_Hierarchy_highest_common (P := P) (w := w) (base := base) T G_Hierarchy_require_class G_Hierarchy_descendants
  have G_highest_common_points := ok_highest_common_points (P := P) (w := w) (base := base) T G_require_alike_points G_combined G_Hierarchy_highest_common
  have G_MethodTable_is_own_point := ok_MethodTable_is_own_point (P := P) (w := w) (base := base) T G_is_point_of_length
  have G_require_point_calls := ok_require_point_calls (P := P) (w := w) (base := base) T G_MethodTable_is_own_point
  have G_MethodTable_rivals_at := ok_MethodTable_rivals_at (P := P) (w := w) (base := base) T G_lowest G_MethodTable_applicable_at
  have G_rivals := ok_rivals (P := P) (w := w) (base := base) T G_require_point_calls G_MethodTable_rivals_at
  have G_status := ok_status (P := P) (w := w) (base := base) T G_rivals G_MethodTable_common_expansion
  have G_ambiguous_commons := ok_ambiguous_commons (P := P) (w := w) (base := base) T G_MethodTable_points G_MethodTable_hierarchy G_highest_common_points G_status
  have G_conflicts := ok_conflicts (P := P) (w := w) (base := base) T G_MethodTable_hierarchy G_highest G_ambiguous_commons
  have G_is_settled := ok_is_settled (P := P) (w := w) (base := base) T G_ambiguous_commons
  have G__law_right := ok__law_right (P := P) (w := w) (base := base) T G__law_ups G__law_all_points G__law_expansions G__law_answer G__law_highest G__law_is_meet G_Hierarchy G_MethodTable G_conflicts G_is_settled
  exact law_keeps T F G__law_pot G__law_draw G__law_kinds G__law_methods G__law_mixed G__law_right
end
section
variable {P : Program} {w : World} {K : PySem.W.Frag} {mg mb : Str → Option Value}
/-- the first call: no repr is under way there -/
theorem first_call {k : Nat} {fa a : Addr} {fd : FuncData} {x : Str} {sp : Sp} {s : Shared} {vs : List Value} {ns : List Int} (kin : K.In s.heap) (ng : s.heap.Ns mainGlobals mg) (nb : s.heap.Ns builtinsNs mb) (bb : ∀ y : Str, y ≠ "__name__" → mb y = bootBuiltins y)
    (nl : s.heap.NoLimit) (gn : s.gens = #[]) (scr : s.heap.get? a = some { cls := .type "list", data := .seq vs.toArray }) (hi : IntsAre vs ns) (short : ns.length ≤ sizeLine) (room : Room k callerA)
    (F : ∀ base : Heap, K.In base → base.Ns mainGlobals mg → FG.FnG P w K mg base k fa fd [x] sp) (bind : ∀ (s : Shared) (u : Value), BindsTo s fd ⟨[u], []⟩ [(x, u)])
    (asks : ∀ H : Hp, SqL K H a (ns.map V.int) → sp [.ref a] H (fun v _ => v = .bl true) E0) :
    codeAny (model P w) callerA (.call (.ref fa) ⟨[.ref a], []⟩) (fun r t => r = .ok (.ret (.bool true)) ∧ OldK s.heap t.heap ∧ t.os = s.os ∧ AllBare t.gens) s := by
  have vi := vals_ints hi
  have li := hi.length
  have main : ∀ H : Hp, (∀ b u, H b = some u → b = a ∧ u = .frz { cls := .type "list", data := .seq vs.toArray } (.lst (ns.map V.int)) ∧ K.lookup a = none) → SqL K H a (ns.map V.int) →
      codeAny (model P w) callerA (.call (.ref fa) ⟨[.ref a], []⟩) (fun r t => r = .ok (.ret (.bool true)) ∧ OldK s.heap t.heap ∧ t.os = s.os ∧ AllBare t.gens) s := by
    intro H tr sq
    have nsb : ∀ {b : Addr} {m : Str → Option Value}, s.heap.Ns b m → (hidT s.heap H).Ns b m := fun {b m} ⟨o, es, ep, h1, h2, h3⟩ => by
      refine ⟨o, es, ep, hidT_get h1 ?_, h2, h3⟩
      cases q : H b with
      | none => rfl
      | some u =>
        obtain ⟨e, _, _⟩ := tr b u q
        rw [e, scr] at h1
        have h1 := Option.some.inj h1
        rw [← h1] at h2
        cases h2
    have kb : K.In (hidT s.heap H) := fun b o e => hidT_get (kin b o e) (by
      cases q : H b with
      | none => rfl
      | some u =>
        obtain ⟨e2, _, z⟩ := tr b u q
        rw [e2, z] at e
        cases e)
    have hok : HOk P w H s.heap := fun b u q => by
      obtain ⟨e1, e2, _⟩ := tr b u q
      subst e1 e2
      exact ⟨scr, by rw [List.length_map]; exact short, vs, _, vi, scr⟩
    obtain ⟨ml, l1, l2⟩ := nl
    have env : Env0 P w K mg (hidT s.heap H) callerA [] s H := ⟨rfl, ⟨kb, nsb ng, ⟨mb, nsb nb, bb⟩, ml, nsb l1, l2⟩, fun _ _ => of_hidT, Nat.le_of_eq (hidT_size _ _), trivial, fun b hb => absurd (show b ∈ ([] : List Addr) from hb) (by simp), hok, .of_eq gn⟩
    have ran := (F _ kb (nsb ng)).run callerA [] s H ⟨[.ref a], []⟩ [.ref a] [.ref a] (fun v _ => v = .bl true) E0 rfl room env (bind s (.ref a)) (.cons rfl .nil) (asks H sq)
    refine codeAny_mono ran fun r t z => ?_
    match r, z with
    | .error _, z => exact (show False from z).elim
    | .ok .next, z => exact (show False from z).elim
    | .ok .brk, z => exact (show False from z).elim
    | .ok .cont, z => exact (show False from z).elim
    | .ok (.ret u), z =>
      obtain ⟨v, H2, z1, z2, un, ok2, rv, z3⟩ := z
      have z3 : v = .bl true := z3
      subst z3
      have rv : u = Value.bool true := rv
      subst rv
      refine ⟨rfl, OldK.of_keep fun b o hb => ?_, z1, z2⟩
      cases q : H b with
      | none => exact un.keep b o hb q (fun z => absurd (show b ∈ ([] : List Addr) from z) (by simp)) (by simp)
      | some u =>
        obtain ⟨_, e2, _⟩ := tr b u q
        rw [e2] at q
        have old := (hok b _ q).1
        rw [hb] at old
        rw [Option.some.inj old]
        exact (ok2 b _ (un.frzs b _ _ q)).1
  cases hk : K.lookup a with
  | none =>
    refine main (fun b => if b = a then some (.frz { cls := .type "list", data := .seq vs.toArray } (.lst (ns.map V.int))) else none) (fun b u q => ?_) (.inl (.inr ⟨_, if_pos rfl⟩))
    by_cases hb : b = a
    · exact ⟨hb, (Option.some.inj ((if_pos hb).symm.trans q)).symm, hk⟩
    · cases (if_neg hb).symm.trans q
  | some o =>
    have e := kin a o hk
    rw [scr] at e
    have e := Option.some.inj e
    subst e
    exact main (fun _ => none) (fun b u q => by cases (show (none : Option HO) = some u from q)) (.inr ⟨_, vs.toArray, _, hk, rfl, rfl, rfl, by rw [List.size_toArray, li]; exact short, by simpa using vi⟩)
end
/-- a law whose promise is kept where no repr is under way -/
theorem end_walk {l : PySem.W.OpenLaw} {n k : Nat} {q : Program} {loose : List Str} {XP : (Str → Option Value) → Heap → Prop} {YP : World → Heap → Prop} {d : DefRec} {x : Str} (hn : l.most = some n) (hn2 : n ≤ sizeLine) (hdf : d.params.defaults = []) (room : Room k callerA)
    (F : ∀ (w : World) (mg : Str → Option Value) (fa : Addr) (h : Heap), YP w h → h.Ns mainGlobals mg → mg d.name = some (.ref fa) →
      ∃ (K : PySem.W.Frag) (fd : FuncData) (sp : Sp), K.In h ∧ (∀ (s : Shared) (u : Value), BindsTo s fd ⟨[u], []⟩ [(x, u)]) ∧ (∀ (H : Hp) (a : Addr) (ns : List Int), SqL K H a (ns.map V.int) → sp [.ref a] H (fun v _ => v = .bl true) E0) ∧
        ∀ base : Heap, K.In base → base.Ns mainGlobals mg → FG.FnG l.prog w K mg base k fa fd [x] sp) :
    PySem.W.WalkO q loose XP YP l.row.toRowW d [] (fun f vs => PySem.call f vs) := by
  refine Att.attach_call hn hdf fun w _ s mg mb fa _ _ _ _ a vs ns G Y _ _ _ hmg hobj hints hlen hg => ?_
  obtain ⟨K, fd, sp, kin, bind, asks, keep⟩ := F w mg fa _ Y G.T.g hmg
  exact first_call kin G.T.g G.T.b G.T.builtins G.T.nolimit hg hobj hints (Nat.le_trans hlen hn2) room keep bind fun H => asks H a ns
end FM
open PySem PySem.W PySem.Calls PyProof.Rows
theorem PySem.Challenge.cw_fewestmethods_k51_whole_conflicts_by_all_holds : PySem.Challenge.rw_fewestmethods_k51_whole_conflicts_by_all.Holds := by
  w_on; o_law
  refine HandSHeadRun.head_any (r := FM.R0) (q := view FM.R0.prog [90]) (H := FM.hkR) (ob := FM.obR) (M := 40000) (loose := FM.loose) (d := HandSHeadRun.topDef FM.R0.prog 90) (kwd := []) FM.obR_eq
    (by kernel_rfl) (fun s => by kernel_rfl) FM.run (by kernel_rfl) (by kernel_rfl) (by kernel_rfl) (by rfl) (by first | assumption | decide +kernel) (by decide +kernel) ⟨rfl, rfl, rfl, rfl, rfl, by decide +kernel⟩ ?wit ?walk
  case wit => w_witness2
  case walk =>
    refine FM.end_walk (l := PySem.Challenge.rw_fewestmethods_k51_whole_conflicts_by_all) (n := 63) (k := 13) (x := "_law_script") rfl (by decide) (by kernel_rfl) ⟨rfl, by decide, by decide⟩ ?_
    intro w mg fa h Y G hmg0
    obtain ⟨K, KX, says⟩ := Y
    have T : FM.Txt K mg := ⟨says, h, KX, G⟩
    have nm : (HandSHeadRun.topDef FM.R0.prog 90).name = ("law" : PySem.Str) := by kernel_rfl
    rw [nm, T.g_law] at hmg0
    obtain ⟨fd, F⟩ := T.d_law
    have efa := Option.some.inj hmg0
    injection efa with efa
    subst efa
    have b := L2.FunD.bindsA (ps := ["_law_script"]) F fun _ _ _ _ _ _ us hl => match us, hl with | [_], _ => rfl
    exact ⟨K, fd, FM.sp_law (K := K), KX, fun s v => b s [v] rfl, fun H a ns hS => ⟨ns, ⟨.ref a, rfl, a, rfl, hS⟩, fun v H' _ hv => hv⟩, fun base _ _ => FM.all_keep T F⟩
