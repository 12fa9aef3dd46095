import PyProof.Rows.All
import HandS.TupAny
import HandS.Style
import HandS.Conv
import HandS.Strs
import HandS.ForMost
import HandS.Exc
import HandS.ExcOwn
import HandS.WordsExc
import HandS.IsInst
import HandS.Star
import HandS.DictComp
import HandS.SetFor
import HandS.SortRule
import KE.GoesEnum
import KE.GoesMore
import HandS.Zip
import HandS.TupSets
import HandS.Flow
import HandS.HeadEnd
import PySem.Challenge.RW_leftwithout_k21_whole_orders_for_outcome
import KE.KExcSuper
import KE.KExcInit
import KE.KSuper
import HandS.Small
import HandS.ExcIs
import HandS.TryMany
import PyProof.ExcBaseAll.LookupError
import HandS.Words
import KE.KExcIs
set_option linter.all false
namespace Lw
/-! ### seats, the plain functions -/
abbrev Gs := List (Nat × Nat)
abbrev Tk := List (Option Nat)
def gAt (gs : Gs) (k : Nat) : Nat × Nat := gs.getD k (0, 0)
def seatF (g : Nat × Nat) (tk : List Nat) : Option Nat := if g.1 ∈ tk then (if g.2 ∈ tk then none else some g.2) else some g.1
def runS (gs : Gs) : List Nat → Tk × List Nat → Tk × List Nat
  | [], s => s
  | k :: r, s => runS gs r (s.1.set k (seatF (gAt gs k) s.2), s.2 ++ (seatF (gAt gs k) s.2).toList)
def runF (gs : Gs) (o : List Nat) : Tk := (runS gs o (List.replicate gs.length none, [])).1
def askF (g : Nat × Nat) (o : Option Nat) : List Nat := if o = some g.1 then [] else if o = some g.2 then [g.1] else [g.1, g.2]
def ask (gs : Gs) (ts : Tk) (l : Nat) : List Nat := askF (gAt gs l) (ts.getD l none)
def has (ts : Tk) (f p : Nat) : Prop := ts[f]? = some (some p)
instance (ts : Tk) (f p : Nat) : Decidable (has ts f p) := by unfold has; exact inferInstance
def arrB (gs : Gs) (ts : Tk) (f l : Nat) : Bool := decide (l < ts.length) && (ask gs ts l).any fun p => decide (has ts f p)
def lackF (gs : Gs) (ts : Tk) : List Nat := (List.range ts.length).filter fun l => (ask gs ts l).any fun p => !(ts.contains (some p))
def Bef (o : List Nat) (f l : Nat) : Prop := ∃ a b, o = a ++ l :: b ∧ f ∈ a

structure Valid (gs : Gs) (ts : Tk) : Prop where
  len : ts.length = gs.length
  at_ : ∀ k p, has ts k p → p = (gAt gs k).1 ∨ p = (gAt gs k).2
  inj : ∀ i j p, has ts i p → has ts j p → i = j
def Sound (gs : Gs) (ts : Tk) : Prop := ∀ l p, l < ts.length → p ∈ ask gs ts l → ∃ f, has ts f p
def Along (gs : Gs) (ts : Tk) (o : List Nat) : Prop := ∀ f l, arrB gs ts f l = true → Bef o f l
def SeatRel (g : Nat × Nat) (o : Option Nat) (P : Nat → Prop) : Prop := (o = some g.1 ∧ ¬ P g.1) ∨ (o = some g.2 ∧ P g.1 ∧ ¬ P g.2) ∨ (o = none ∧ P g.1 ∧ P g.2)
def tkn (ts : Tk) (a : List Nat) (p : Nat) : Prop := ∃ f, f ∈ a ∧ has ts f p
def Fits (gs : Gs) (ts : Tk) (o : List Nat) : Prop := ∀ a l b, o = a ++ l :: b → ∃ s, ts[l]? = some s ∧ SeatRel (gAt gs l) s (tkn ts a)

theorem has_lt {ts : Tk} {f p : Nat} (h : has ts f p) : f < ts.length := by
  unfold has at h
  exact (List.getElem?_eq_some_iff.mp h).1
theorem arrB_iff {gs : Gs} {ts : Tk} {f l : Nat} : arrB gs ts f l = true ↔ l < ts.length ∧ ∃ p, p ∈ ask gs ts l ∧ has ts f p := by
  unfold arrB
  simp only [Bool.and_eq_true, decide_eq_true_eq, List.any_eq_true]
theorem seatF_rel {g : Nat × Nat} {tk : List Nat} {P : Nat → Prop} (h : ∀ p, p ∈ tk ↔ P p) : SeatRel g (seatF g tk) P := by
  unfold seatF SeatRel
  by_cases h1 : g.1 ∈ tk
  · by_cases h2 : g.2 ∈ tk
    · rw [if_pos h1, if_pos h2]
      exact .inr (.inr ⟨rfl, (h _).mp h1, (h _).mp h2⟩)
    · rw [if_pos h1, if_neg h2]
      exact .inr (.inl ⟨rfl, (h _).mp h1, fun z => h2 ((h _).mpr z)⟩)
  · rw [if_neg h1]
    exact .inl ⟨rfl, fun z => h1 ((h _).mpr z)⟩
theorem SeatRel.fn {g : Nat × Nat} {o o' : Option Nat} {P P' : Nat → Prop} (a : SeatRel g o P) (b : SeatRel g o' P') (e : ∀ p, P p ↔ P' p) : o = o' := by
  rcases a with ⟨a, a1⟩ | ⟨a, a1, a2⟩ | ⟨a, a1, a2⟩ <;> rcases b with ⟨b, b1⟩ | ⟨b, b1, b2⟩ | ⟨b, b1, b2⟩
  · rw [a, b]
  · exact absurd ((e _).mpr b1) a1
  · exact absurd ((e _).mpr b1) a1
  · exact absurd ((e _).mp a1) b1
  · rw [a, b]
  · exact absurd ((e _).mpr b2) a2
  · exact absurd ((e _).mp a1) b1
  · exact absurd ((e _).mp a2) b2
  · rw [a, b]

theorem runS_fits (gs : Gs) : ∀ (post pre : List Nat) (ts : Tk) (tk : List Nat), (pre ++ post).Nodup → (∀ k, k ∈ post → k < ts.length) → (∀ p, p ∈ tk ↔ tkn ts pre p) →
    (runS gs post (ts, tk)).1.length = ts.length ∧ (∀ f, f ∉ post → (runS gs post (ts, tk)).1[f]? = ts[f]?) ∧
    ∀ a l b, post = a ++ l :: b → ∃ s, (runS gs post (ts, tk)).1[l]? = some s ∧ SeatRel (gAt gs l) s (tkn (runS gs post (ts, tk)).1 (pre ++ a))
  | [], pre, ts, tk, _, _, _ => ⟨rfl, fun _ _ => rfl, fun a l b h => by simp at h⟩
  | k :: r, pre, ts, tk, hn, hb, ht => by
    have hk : k < ts.length := hb k List.mem_cons_self
    have hnk : k ∉ pre := fun z => by
      have := (List.nodup_append.mp hn).2.2 k z k List.mem_cons_self
      exact this rfl
    have hnr : k ∉ r := (List.nodup_cons.mp (List.nodup_append.mp hn).2.1).1
    have hn2 : ((pre ++ [k]) ++ r).Nodup := by
      rw [List.append_assoc]
      exact hn
    have ht2 : ∀ p, p ∈ tk ++ (seatF (gAt gs k) tk).toList ↔ tkn (ts.set k (seatF (gAt gs k) tk)) (pre ++ [k]) p := fun p => by
      unfold tkn has
      constructor
      · intro h
        rcases List.mem_append.mp h with h | h
        · obtain ⟨f, hf, e⟩ := (ht p).mp h
          refine ⟨f, List.mem_append_left _ hf, ?_⟩
          rw [List.getElem?_set_ne (fun z : k = f => hnk (by rw [z]; exact hf))]
          exact e
        · refine ⟨k, List.mem_append_right _ List.mem_cons_self, ?_⟩
          rw [List.getElem?_set_self hk]
          cases e : seatF (gAt gs k) tk with
          | none =>
            rw [e] at h
            simp at h
          | some q =>
            rw [e] at h
            simp at h
            rw [h]
      · rintro ⟨f, hf, e⟩
        rcases List.mem_append.mp hf with hf | hf
        · rw [List.getElem?_set_ne (fun z : k = f => hnk (by rw [z]; exact hf))] at e
          exact List.mem_append_left _ ((ht p).mpr ⟨f, hf, e⟩)
        · have : f = k := by simpa using hf
          subst this
          rw [List.getElem?_set_self hk] at e
          refine List.mem_append_right _ ?_
          rw [Option.some.inj e]
          simp
    obtain ⟨i1, i2, i3⟩ := runS_fits gs r (pre ++ [k]) (ts.set k (seatF (gAt gs k) tk)) (tk ++ (seatF (gAt gs k) tk).toList) hn2 (fun j hj => by
      rw [List.length_set]
      exact hb j (List.mem_cons_of_mem _ hj)) ht2
    refine ⟨?_, ?_, ?_⟩
    · show (runS gs r _).1.length = _
      rw [i1, List.length_set]
    · intro f hf
      show (runS gs r _).1[f]? = _
      rw [i2 f (fun z => hf (List.mem_cons_of_mem _ z)), List.getElem?_set_ne (fun z : k = f => hf (by rw [z]; exact List.mem_cons_self))]
    · intro a l b e
      show ∃ s, (runS gs r _).1[l]? = some s ∧ SeatRel (gAt gs l) s (tkn (runS gs r _).1 (pre ++ a))
      cases a with
      | nil =>
        rw [List.nil_append] at e
        obtain ⟨rfl, rfl⟩ := List.cons.inj e
        refine ⟨seatF (gAt gs k) tk, ?_, seatF_rel fun p => ?_⟩
        · rw [i2 k hnr, List.getElem?_set_self hk]
        · rw [List.append_nil, ht p]
          unfold tkn has
          refine exists_congr fun f => and_congr_right fun hf => ?_
          have hfk : k ≠ f := fun z => hnk (z ▸ hf)
          have hfr : f ∉ r := fun z => (List.nodup_append.mp hn).2.2 f hf f (List.mem_cons_of_mem _ z) rfl
          rw [i2 f hfr, List.getElem?_set_ne hfk]
      | cons x a' =>
        have e0 : k :: r = x :: (a' ++ l :: b) := e
        obtain ⟨rfl, e1⟩ := List.cons.inj e0
        obtain ⟨s, h1, h2⟩ := i3 a' l b e1
        refine ⟨s, h1, ?_⟩
        rw [List.append_assoc] at h2
        exact h2

/-! ### orders -/
def Ord (n : Nat) (o : List Nat) : Prop := o.Perm (List.range n)
theorem Ord.nodup {n : Nat} {o : List Nat} (h : Ord n o) : o.Nodup := (List.Perm.nodup_iff h).mpr List.nodup_range
theorem Ord.mem {n : Nat} {o : List Nat} (h : Ord n o) {k : Nat} : k ∈ o ↔ k < n := by rw [List.Perm.mem_iff h, List.mem_range]
theorem Ord.len {n : Nat} {o : List Nat} (h : Ord n o) : o.length = n := by rw [List.Perm.length_eq h, List.length_range]
theorem split_at {o : List Nat} {k : Nat} (h : k ∈ o) : ∃ a b, o = a ++ k :: b := List.append_of_mem h

theorem runF_len {gs : Gs} {o : List Nat} (ho : Ord gs.length o) : (runF gs o).length = gs.length := by
  have h := runS_fits gs o [] (List.replicate gs.length none) [] (by rw [List.nil_append]; exact ho.nodup) (fun k hk => by rw [List.length_replicate]; exact ho.mem.mp hk) (fun p => by unfold tkn; simp)
  unfold runF
  rw [h.1, List.length_replicate]
theorem runF_fits {gs : Gs} {o : List Nat} (ho : Ord gs.length o) : Fits gs (runF gs o) o := by
  have h := runS_fits gs o [] (List.replicate gs.length none) [] (by rw [List.nil_append]; exact ho.nodup) (fun k hk => by rw [List.length_replicate]; exact ho.mem.mp hk) (fun p => by unfold tkn; simp)
  intro a l b e
  obtain ⟨s, h1, h2⟩ := h.2.2 a l b e
  exact ⟨s, h1, h2⟩
theorem fits_pre {gs : Gs} {ts ts' : Tk} {o : List Nat} (h : Fits gs ts o) (h' : Fits gs ts' o) : ∀ (n : Nat) (a b : List Nat), a.length = n → o = a ++ b → ∀ f, f ∈ a → ts[f]? = ts'[f]?
  | 0, a, b, ha, _, f, hf => by
    have := List.length_eq_zero_iff.mp ha
    rw [this] at hf
    simp at hf
  | n + 1, a, b, ha, e, f, hf => by
    rcases List.eq_nil_or_concat a with rfl | ⟨a', l, rfl⟩
    · simp at ha
    · rw [List.concat_eq_append] at ha e hf
      have ha' : a'.length = n := by simpa using ha
      have e' : o = a' ++ l :: b := by rw [e, List.append_assoc]; rfl
      have ih := fits_pre h h' n a' (l :: b) ha' e'
      rcases List.mem_append.mp hf with hf | hf
      · exact ih f hf
      · have : f = l := by simpa using hf
        subst this
        obtain ⟨s, h1, h2⟩ := h a' f b e'
        obtain ⟨s', h1', h2'⟩ := h' a' f b e'
        rw [h1, h1', SeatRel.fn h2 h2' fun p => ?_]
        unfold tkn has
        exact exists_congr fun g => and_congr_right fun hg => by rw [ih g hg]
theorem fits_run {gs : Gs} {ts : Tk} {o : List Nat} (ho : Ord gs.length o) (hl : ts.length = gs.length) (h : Fits gs ts o) : runF gs o = ts := by
  refine List.ext_getElem? fun i => ?_
  by_cases hi : i < gs.length
  · exact fits_pre (runF_fits ho) h o.length o [] rfl (by simp) i (ho.mem.mpr hi)
  · rw [List.getElem?_eq_none (by rw [runF_len ho]; omega), List.getElem?_eq_none (by omega)]

theorem Fits.valid {gs : Gs} {ts : Tk} {o : List Nat} (ho : Ord gs.length o) (hl : ts.length = gs.length) (h : Fits gs ts o) : Valid gs ts := by
  refine ⟨hl, fun k p hp => ?_, fun i j p hi hj => ?_⟩
  · obtain ⟨a, b, e⟩ := split_at (ho.mem.mpr (by rw [← hl]; exact has_lt hp))
    obtain ⟨s, h1, h2⟩ := h a k b e
    unfold has at hp
    rw [hp] at h1
    have es := Option.some.inj h1
    subst es
    rcases h2 with ⟨z, _⟩ | ⟨z, _⟩ | ⟨z, _⟩
    · exact .inl (Option.some.inj z)
    · exact .inr (Option.some.inj z)
    · cases z
  · -- one of both stands ahead of the other
    have key : ∀ i j, has ts i p → has ts j p → ∀ a b, o = a ++ j :: b → i ∉ a := fun i j hi hj a b e hia => by
      obtain ⟨s, h1, h2⟩ := h a j b e
      unfold has at hj
      rw [hj] at h1
      have es := Option.some.inj h1
      subst es
      have hP : tkn ts a p := ⟨i, hia, hi⟩
      rcases h2 with ⟨z, y⟩ | ⟨z, _, y⟩ | ⟨z, _⟩
      · exact y (Option.some.inj z ▸ hP)
      · exact y (Option.some.inj z ▸ hP)
      · cases z
    have hio := ho.mem.mpr (show i < gs.length by rw [← hl]; exact has_lt hi)
    have hjo := ho.mem.mpr (show j < gs.length by rw [← hl]; exact has_lt hj)
    obtain ⟨a, b, e⟩ := split_at hjo
    have n1 := key i j hi hj a b e
    rw [e] at hio
    rcases List.mem_append.mp hio with z | z
    · exact absurd z n1
    · rcases List.mem_cons.mp z with z | z
      · exact z
      · obtain ⟨c, d, e2⟩ := split_at z
        exact absurd (show j ∈ a ++ j :: c from List.mem_append_right _ List.mem_cons_self) (key j i hj hi (a ++ j :: c) d (by rw [e, e2]; simp))
theorem ask_mem {g : Nat × Nat} {o : Option Nat} {p : Nat} (h : p ∈ askF g o) : o ≠ some g.1 ∧ (p = g.1 ∨ (p = g.2 ∧ o ≠ some g.2)) := by
  unfold askF at h
  by_cases h1 : o = some g.1
  · rw [if_pos h1] at h
    simp at h
  · rw [if_neg h1] at h
    refine ⟨h1, ?_⟩
    by_cases h2 : o = some g.2
    · rw [if_pos h2] at h
      exact .inl (by simpa using h)
    · rw [if_neg h2] at h
      rcases List.mem_cons.mp h with h | h
      · exact .inl h
      · exact .inr ⟨by simpa using h, h2⟩
theorem getD_of {ts : Tk} {l : Nat} {s : Option Nat} (h : ts[l]? = some s) : ts.getD l none = s := by
  rw [List.getD_eq_getElem?_getD, h]; rfl
theorem Fits.asked {gs : Gs} {ts : Tk} {o a b : List Nat} {l p : Nat} (h : Fits gs ts o) (e : o = a ++ l :: b) (hp : p ∈ ask gs ts l) : tkn ts a p := by
  obtain ⟨s, h1, h2⟩ := h a l b e
  unfold ask at hp
  rw [getD_of h1] at hp
  obtain ⟨q1, q2⟩ := ask_mem hp
  rcases h2 with ⟨z, _⟩ | ⟨z, y, _⟩ | ⟨z, y, y2⟩
  · exact absurd z q1
  · rcases q2 with q2 | ⟨_, q2⟩
    · rw [q2]; exact y
    · exact absurd z q2
  · rcases q2 with q2 | ⟨q2, _⟩
    · rw [q2]; exact y
    · rw [q2]; exact y2
theorem Fits.sound {gs : Gs} {ts : Tk} {o : List Nat} (ho : Ord gs.length o) (hl : ts.length = gs.length) (h : Fits gs ts o) : Sound gs ts := fun l p hlt hp => by
  obtain ⟨a, b, e⟩ := split_at (ho.mem.mpr (by rw [← hl]; exact hlt))
  obtain ⟨f, _, hf⟩ := h.asked e hp
  exact ⟨f, hf⟩
theorem Fits.along {gs : Gs} {ts : Tk} {o : List Nat} (ho : Ord gs.length o) (hl : ts.length = gs.length) (h : Fits gs ts o) : Along gs ts o := fun f l hfl => by
  obtain ⟨hlt, p, hp, hf⟩ := arrB_iff.mp hfl
  obtain ⟨a, b, e⟩ := split_at (ho.mem.mpr (by rw [← hl]; exact hlt))
  obtain ⟨f', hfa, hf'⟩ := h.asked e hp
  rw [(h.valid ho hl).inj f f' p hf hf']
  exact ⟨a, b, e, hfa⟩
theorem fits_of {gs : Gs} {ts : Tk} {o : List Nat} (ho : Ord gs.length o) (V : Valid gs ts) (S : Sound gs ts) (A : Along gs ts o) : Fits gs ts o := fun a l b e => by
  have hlt : l < ts.length := by
    rw [V.len]
    exact ho.mem.mp (by rw [e]; exact List.mem_append_right _ List.mem_cons_self)
  refine ⟨ts[l], List.getElem?_eq_getElem hlt, ?_⟩
  have hD : ts.getD l none = ts[l] := getD_of (List.getElem?_eq_getElem hlt)
  -- who is asked for stands ahead
  have asks : ∀ p, p ∈ ask gs ts l → tkn ts a p := fun p hp => by
    obtain ⟨f, hf⟩ := S l p hlt hp
    obtain ⟨a', b', e', hfa⟩ := A f l (arrB_iff.mpr ⟨hlt, p, hp, hf⟩)
    have nd := ho.nodup
    have ea : a' = a := by
      rw [e] at e' nd
      obtain ⟨h1, h2, h3⟩ := List.nodup_append.mp nd
      have nl : l ∉ a := fun z => h3 l z l List.mem_cons_self rfl
      rw [e'] at nd
      obtain ⟨g1, g2, g3⟩ := List.nodup_append.mp nd
      have nl' : l ∉ a' := fun z => g3 l z l List.mem_cons_self rfl
      have key : ∀ (a a' b b' : List Nat), l ∉ a → l ∉ a' → a ++ l :: b = a' ++ l :: b' → a' = a := by
        intro a
        induction a with
        | nil =>
          intro a' b b' _ n2 e
          cases a' with
          | nil => rfl
          | cons x r =>
            obtain ⟨rfl, _⟩ := List.cons.inj e
            exact absurd List.mem_cons_self n2
        | cons y r ih =>
          intro a' b b' n1 n2 e
          cases a' with
          | nil =>
            obtain ⟨rfl, _⟩ := List.cons.inj e
            exact absurd List.mem_cons_self n1
          | cons x r' =>
            obtain ⟨rfl, e2⟩ := List.cons.inj e
            rw [ih r' b b' (fun z => n1 (List.mem_cons_of_mem _ z)) (fun z => n2 (List.mem_cons_of_mem _ z)) e2]
      exact key a a' b b' nl nl' e'
    rw [ea] at hfa
    exact ⟨f, hfa, hf⟩
  have nla : l ∉ a := fun z => by
    have nd := ho.nodup
    rw [e] at nd
    exact (List.nodup_append.mp nd).2.2 l z l List.mem_cons_self rfl
  have own : ∀ p, ts[l] = some p → ¬ tkn ts a p := fun p hp z => by
    obtain ⟨f, hfa, hf⟩ := z
    have : has ts l p := by
      unfold has
      rw [List.getElem?_eq_getElem hlt, hp]
    rw [V.inj f l p hf this] at hfa
    exact nla hfa
  unfold ask at asks
  rw [hD] at asks
  cases hs : ts[l] with
  | none =>
    refine .inr (.inr ⟨rfl, asks _ ?_, asks _ ?_⟩) <;> rw [hs] <;> simp [askF]
  | some q =>
    have hq := V.at_ l q (by unfold has; rw [List.getElem?_eq_getElem hlt, hs])
    by_cases h1 : q = (gAt gs l).1
    · exact .inl ⟨by rw [h1], by rw [← h1]; exact own q hs⟩
    · have h2 : q = (gAt gs l).2 := hq.resolve_left h1
      refine .inr (.inl ⟨by rw [h2], asks _ ?_, by rw [← h2]; exact own q hs⟩)
      rw [hs]
      unfold askF
      rw [if_neg (fun z => h1 (Option.some.inj z)), if_pos (by rw [h2])]
      exact List.mem_cons_self

/-- the two readings of «has it»: seated one by one, or along the arrows -/
theorem has_it {gs : Gs} {o o' : List Nat} (ho : Ord gs.length o) (ho' : Ord gs.length o') : runF gs o' = runF gs o ↔ Along gs (runF gs o) o' := by
  have hl := runF_len ho
  have F := runF_fits ho
  constructor
  · intro e
    rw [← e]
    exact (runF_fits ho').along ho' (runF_len ho')
  · intro A
    exact fits_run ho' hl (fits_of ho' (F.valid ho hl) (F.sound ho hl) A)
theorem lack_nil {gs : Gs} {ts : Tk} : lackF gs ts = [] ↔ Sound gs ts := by
  unfold lackF Sound
  rw [List.filter_eq_nil_iff]
  constructor
  · intro h l p hl hp
    have h1 := h l (List.mem_range.mpr hl)
    rw [Bool.not_eq_true, List.any_eq_false] at h1
    have h2 := h1 p hp
    simp at h2
    obtain ⟨i, hi, e⟩ := List.getElem_of_mem h2
    exact ⟨i, by unfold has; rw [List.getElem?_eq_getElem hi, e]⟩
  · intro h l hl
    rw [Bool.not_eq_true, List.any_eq_false]
    intro p hp
    obtain ⟨f, hf⟩ := h l p (List.mem_range.mp hl) hp
    simp
    exact List.mem_of_getElem? hf
end Lw
set_option linter.all false
namespace Lw
/-! ### peeling an order along arrows -/
structure Peel (arr : Nat → Nat → Bool) (n : Nat) (left found : List Nat) : Prop where
  perm : (found ++ left).Perm (List.range n)
  along : ∀ f l, arr f l = true → l ∈ found → Bef found f l
theorem Peel.start (arr : Nat → Nat → Bool) (n : Nat) : Peel arr n (List.range n) [] := ⟨by rw [List.nil_append], fun _ _ _ h => by simp at h⟩
theorem Peel.step {arr : Nat → Nat → Bool} {n : Nat} {left found left' : List Nat} {g : Nat} (P : Peel arr n left found) (hlt : ∀ f l, arr f l = true → f < n) (hg : g ∈ left) (hf : ∀ f, f ∈ left → arr f g = false) (hl : left.Perm (g :: left')) : Peel arr n left' (found ++ [g]) := by
  refine ⟨?_, fun f l hfl hl' => ?_⟩
  · rw [List.append_assoc]
    exact (List.Perm.append_left found hl).symm.trans P.perm
  · rcases List.mem_append.mp hl' with h | h
    · obtain ⟨a, b, e, hfa⟩ := P.along f l hfl h
      exact ⟨a, b ++ [g], by rw [e, List.append_assoc]; rfl, hfa⟩
    · have el : l = g := by simpa using h
      subst el
      have hm : f ∈ found ++ left := (List.Perm.mem_iff P.perm).mpr (List.mem_range.mpr (hlt f l hfl))
      rcases List.mem_append.mp hm with h1 | h1
      · exact ⟨found, [], rfl, h1⟩
      · rw [hf f h1] at hfl
        cases hfl
theorem Peel.done {arr : Nat → Nat → Bool} {n : Nat} {found : List Nat} (P : Peel arr n [] found) (hlt : ∀ f l, arr f l = true → l < n) : Ord n found ∧ ∀ f l, arr f l = true → Bef found f l := by
  have hp := P.perm
  rw [List.append_nil] at hp
  exact ⟨hp, fun f l h => P.along f l h ((List.Perm.mem_iff hp).mpr (List.mem_range.mpr (hlt f l h)))⟩
/-- where some order goes along, somebody left is behind nobody left -/
theorem first_free {arr : Nat → Nat → Bool} {w : List Nat} (hw : ∀ f l, arr f l = true → Bef w f l) (nd : w.Nodup) : ∀ (a b : List Nat), w = a ++ b → ∀ left : List Nat, (∀ x, x ∈ left → x ∈ b) → left ≠ [] → ∃ g, g ∈ left ∧ ∀ f, f ∈ left → arr f g = false
  | a, [], _, left, h, hne => by
    cases left with
    | nil => exact absurd rfl hne
    | cons x r => exact absurd (h x List.mem_cons_self) (by simp)
  | a, y :: b, e, left, h, hne => by
    by_cases hy : y ∈ left
    · refine ⟨y, hy, fun f hf => ?_⟩
      cases ha : arr f y with
      | false => rfl
      | true =>
        obtain ⟨c, d, e2, hfc⟩ := hw f y ha
        have hfb := h f hf
        -- f stands ahead of y and not ahead of y
        have nd1 := nd
        rw [e] at nd1
        obtain ⟨_, hb, hab⟩ := List.nodup_append.mp nd1
        have nya : y ∉ a := fun z => hab y z y List.mem_cons_self rfl
        have nd2 := nd
        rw [e2] at nd2
        have nyc : y ∉ c := fun z => (List.nodup_append.mp nd2).2.2 y z y List.mem_cons_self rfl
        have eca : c = a := by
          have : c ++ y :: d = a ++ y :: b := e2.symm.trans e
          rcases List.append_eq_append_iff.mp this with ⟨t, h1, h2⟩ | ⟨t, h1, h2⟩
          · cases t with
            | nil => simpa using h1.symm
            | cons z t =>
              have : y = z := by simpa using (List.cons.inj h2).1
              exact absurd (show y ∈ a by rw [h1, this]; simp) nya
          · cases t with
            | nil => simpa using h1
            | cons z t =>
              have : y = z := by simpa using (List.cons.inj h2).1
              exact absurd (show y ∈ c by rw [h1, this]; simp) nyc
        rw [eca] at hfc
        exact absurd rfl (hab f hfc f hfb)
    · exact first_free hw nd (a ++ [y]) b (by rw [e, List.append_assoc]; rfl) left (fun x hx => by
        rcases List.mem_cons.mp (h x hx) with z | z
        · exact absurd (z ▸ hx) hy
        · exact z) hne
theorem first_free' {arr : Nat → Nat → Bool} {n : Nat} {w : List Nat} (ho : Ord n w) (hw : ∀ f l, arr f l = true → Bef w f l) {left found : List Nat} (P : Peel arr n left found) (hne : left ≠ []) : ∃ g, g ∈ left ∧ ∀ f, f ∈ left → arr f g = false :=
  first_free hw ho.nodup [] w (by simp) left (fun x hx => ho.mem.mpr (List.mem_range.mp ((List.Perm.mem_iff P.perm).mp (List.mem_append_right _ hx)))) hne

/-- who is free among those left -/
def freeF (arr : Nat → Nat → Bool) (left : List Nat) : List Nat := left.filter fun g => !(left.any fun f => arr f g)
theorem mem_free {arr : Nat → Nat → Bool} {left : List Nat} {g : Nat} : g ∈ freeF arr left ↔ g ∈ left ∧ ∀ f, f ∈ left → arr f g = false := by
  unfold freeF
  rw [List.mem_filter]
  refine and_congr_right fun _ => ?_
  rw [Bool.not_eq_true', List.any_eq_false]
  exact forall_congr' fun f => imp_congr_right fun _ => by rw [Bool.not_eq_true]
/-- the least order, by fuel -/
def orderIn (arr : Nat → Nat → Bool) : Nat → List Nat → List Nat → Option (List Nat)
  | 0, left, found => if left = [] then some found else none
  | n + 1, left, found => if left = [] then some found else match freeF arr left with
    | [] => none
    | g :: _ => orderIn arr n (left.erase g) (found ++ [g])
theorem orderIn_ok {arr : Nat → Nat → Bool} {n : Nat} {w : List Nat} (ho : Ord n w) (hw : ∀ f l, arr f l = true → Bef w f l) (hlt : ∀ f l, arr f l = true → f < n ∧ l < n) : ∀ (m : Nat) (left found : List Nat), left.length ≤ m → Peel arr n left found →
    ∃ o, orderIn arr m left found = some o ∧ Ord n o ∧ ∀ f l, arr f l = true → Bef o f l
  | 0, left, found, hl, P => by
    have : left = [] := List.length_eq_zero_iff.mp (Nat.le_zero.mp hl)
    subst this
    exact ⟨found, by simp [orderIn], P.done fun f l h => (hlt f l h).2⟩
  | m + 1, left, found, hl, P => by
    by_cases hne : left = []
    · subst hne
      exact ⟨found, by simp [orderIn], P.done fun f l h => (hlt f l h).2⟩
    · obtain ⟨g, hg1, hg2⟩ := first_free' ho hw P hne
      unfold orderIn
      rw [if_neg hne]
      cases hf : freeF arr left with
      | nil =>
        have : g ∈ freeF arr left := mem_free.mpr ⟨hg1, hg2⟩
        rw [hf] at this
        simp at this
      | cons k r =>
        have hk := mem_free.mp (show k ∈ freeF arr left by rw [hf]; exact List.mem_cons_self)
        show ∃ o, orderIn arr m (left.erase k) (found ++ [k]) = some o ∧ _
        refine orderIn_ok ho hw hlt m _ _ ?_ (P.step (fun f l h => (hlt f l h).1) hk.1 hk.2 (List.perm_cons_erase hk.1))
        rw [List.length_erase_of_mem hk.1]
        omega

/-! ### before, by places -/
theorem idx_app {a b : List Nat} {l : Nat} (h : l ∉ a) : (a ++ l :: b).idxOf l = a.length := by
  rw [List.idxOf_append, if_neg h, List.idxOf_cons_self]
  omega
theorem bef_idx {o : List Nat} (nd : o.Nodup) {f l : Nat} (hf : f ∈ o) (hl : l ∈ o) : Bef o f l ↔ o.idxOf f < o.idxOf l := by
  obtain ⟨a, b, e⟩ := split_at hl
  have nla : l ∉ a := fun z => by
    rw [e] at nd
    exact (List.nodup_append.mp nd).2.2 l z l List.mem_cons_self rfl
  have il : o.idxOf l = a.length := by rw [e]; exact idx_app nla
  constructor
  · rintro ⟨a', b', e', hfa⟩
    have nla' : l ∉ a' := fun z => by
      rw [e'] at nd
      exact (List.nodup_append.mp nd).2.2 l z l List.mem_cons_self rfl
    have i2 : o.idxOf l = a'.length := by rw [e']; exact idx_app nla'
    rw [i2, e', List.idxOf_append, if_pos hfa]
    exact List.idxOf_lt_length_of_mem hfa
  · intro h
    refine ⟨a, b, e, ?_⟩
    rw [il, e, List.idxOf_append] at h
    by_cases hfa : f ∈ a
    · exact hfa
    · rw [if_neg hfa] at h
      omega

/-! ### who comes ahead -/
inductive Anc (arr : Nat → Nat → Bool) (k : Nat) : Nat → Prop where
  | base {f : Nat} (h : arr f k = true) : Anc arr k f
  | step {f g : Nat} (h : arr f g = true) (r : Anc arr k g) : Anc arr k f
theorem Anc.before {arr : Nat → Nat → Bool} {k : Nat} {w : List Nat} (nd : w.Nodup) (hm : ∀ f l, arr f l = true → f ∈ w ∧ l ∈ w) (hw : ∀ f l, arr f l = true → Bef w f l) {f : Nat} (h : Anc arr k f) : w.idxOf f < w.idxOf k := by
  induction h with
  | base h => exact (bef_idx nd (hm _ _ h).1 (hm _ _ h).2).mp (hw _ _ h)
  | step h _ ih => exact Nat.lt_trans ((bef_idx nd (hm _ _ h).1 (hm _ _ h).2).mp (hw _ _ h)) ih
/-- the search: found, now (as sets) -/
structure Srch (arr : Nat → Nat → Bool) (n k : Nat) (found now : List Nat) : Prop where
  anc : ∀ f, f ∈ found → Anc arr k f
  now_ : ∀ g, g ∈ now → g = k ∨ g ∈ found
  closed : ∀ g, (g = k ∨ g ∈ found) → g ∉ now → ∀ f, arr f g = true → f ∈ found
  nd : found.Nodup
  lt : ∀ f, f ∈ found → f < n
theorem Srch.start {arr : Nat → Nat → Bool} {n k : Nat} : Srch arr n k [] [k] :=
  ⟨fun _ h => by simp at h, fun g h => .inl (by simpa using h), fun g h hn => by
    rcases h with h | h
    · exact absurd (by rw [h]; exact List.mem_cons_self) hn
    · simp at h, List.nodup_nil, fun _ h => by simp at h⟩
/-- a turn: later are those that point to one of now and are not found -/
theorem Srch.step {arr : Nat → Nat → Bool} {n k : Nat} {found now found' later : List Nat} (S : Srch arr n k found now) (hlt : ∀ f l, arr f l = true → f < n) (hl : ∀ f, f ∈ later ↔ (∃ g, g ∈ now ∧ arr f g = true) ∧ f ∉ found) (hf : ∀ f, f ∈ found' ↔ f ∈ found ∨ f ∈ later) (nd : found'.Nodup) : Srch arr n k found' later := by
  refine ⟨fun f h => ?_, fun g h => .inr ((hf g).mpr (.inr h)), fun g hg hn f hfg => ?_, nd, fun f h => ?_⟩
  · rcases (hf f).mp h with h | h
    · exact S.anc f h
    · obtain ⟨⟨g, hg, ha⟩, _⟩ := (hl f).mp h
      rcases S.now_ g hg with z | z
      · exact .base (z ▸ ha)
      · exact .step ha (S.anc g z)
  · by_cases h2 : f ∈ found
    · exact (hf f).mpr (.inl h2)
    · by_cases h1 : g ∈ now
      · exact (hf f).mpr (.inr ((hl f).mpr ⟨⟨g, h1, hfg⟩, h2⟩))
      · refine absurd (S.closed g ?_ h1 f hfg) h2
        rcases hg with z | z
        · exact .inl z
        · rcases (hf g).mp z with z | z
          · exact .inr z
          · exact absurd z hn
  · rcases (hf f).mp h with h | h
    · exact S.lt f h
    · obtain ⟨⟨g, _, ha⟩, _⟩ := (hl f).mp h
      exact hlt f g ha
theorem Srch.done {arr : Nat → Nat → Bool} {n k : Nat} {found : List Nat} (S : Srch arr n k found []) (f : Nat) : f ∈ found ↔ Anc arr k f :=
  ⟨S.anc f, fun h => by
    induction h with
    | base h => exact S.closed k (.inl rfl) (by simp) _ h
    | step h _ ih => exact S.closed _ (.inr ih) (by simp) _ h⟩
/-- how many more turns there may be -/
def srchM (n : Nat) (found now : List Nat) : Nat := 2 * (n - found.length) + (if now = [] then 0 else 1)
theorem sub_len : ∀ {l m : List Nat}, l.Nodup → (∀ x, x ∈ l → x ∈ m) → l.length ≤ m.length
  | [], _, _, _ => Nat.zero_le _
  | x :: r, m, nd, h => by
    obtain ⟨n1, n2⟩ := List.nodup_cons.mp nd
    have hx := h x List.mem_cons_self
    have := sub_len (m := m.erase x) n2 fun y hy => (List.mem_erase_of_ne (fun e : y = x => n1 (by rw [← e]; exact hy))).mpr (h y (List.mem_cons_of_mem _ hy))
    rw [List.length_erase_of_mem hx] at this
    have := List.length_pos_of_mem hx
    rw [List.length_cons]
    omega
theorem nodup_le {n : Nat} {l : List Nat} (nd : l.Nodup) (h : ∀ x, x ∈ l → x < n) : l.length ≤ n := by
  have := sub_len (m := List.range n) nd (fun x hx => List.mem_range.mpr (h x hx))
  rwa [List.length_range] at this
theorem Srch.less {arr : Nat → Nat → Bool} {n k : Nat} {found now found' later : List Nat} (S' : Srch arr n k found' later) (hn : now ≠ []) (hle : later.length + found.length ≤ found'.length) : srchM n found' later < srchM n found now := by
  have h1 := nodup_le S'.nd S'.lt
  unfold srchM
  rw [if_neg hn]
  by_cases h : later = []
  · rw [if_pos h]
    subst h
    simp only [List.length_nil] at hle
    omega
  · rw [if_neg h]
    have := List.length_pos_iff.mpr h
    omega

/-! ### sorted lists -/
theorem sorted_eq : ∀ {a b : List Nat}, a.Pairwise (· < ·) → b.Pairwise (· < ·) → (∀ x, x ∈ a ↔ x ∈ b) → a = b
  | [], [], _, _, _ => rfl
  | [], y :: b, _, _, h => absurd ((h y).mpr List.mem_cons_self) (by simp)
  | x :: a, [], _, _, h => absurd ((h x).mp List.mem_cons_self) (by simp)
  | x :: a, y :: b, ha, hb, h => by
    obtain ⟨ha1, ha2⟩ := List.pairwise_cons.mp ha
    obtain ⟨hb1, hb2⟩ := List.pairwise_cons.mp hb
    have exy : x = y := by
      rcases List.mem_cons.mp ((h x).mp List.mem_cons_self) with e | e
      · exact e
      · rcases List.mem_cons.mp ((h y).mpr List.mem_cons_self) with e2 | e2
        · exact e2.symm
        · have := ha1 y e2
          have := hb1 x e
          omega
    subst exy
    rw [sorted_eq ha2 hb2 fun z => ?_]
    constructor
    · intro hz
      rcases List.mem_cons.mp ((h z).mp (List.mem_cons_of_mem _ hz)) with e | e
      · have := ha1 z hz
        omega
      · exact e
    · intro hz
      rcases List.mem_cons.mp ((h z).mpr (List.mem_cons_of_mem _ hz)) with e | e
      · have := hb1 z hz
        omega
      · exact e
theorem range_lt (n : Nat) : (List.range n).Pairwise (· < ·) := List.pairwise_lt_range
theorem lt_of_le_nd : ∀ {l : List Nat}, l.Pairwise (· ≤ ·) → l.Nodup → l.Pairwise (· < ·)
  | [], _, _ => .nil
  | x :: r, h, nd => by
    obtain ⟨h1, h2⟩ := List.pairwise_cons.mp h
    obtain ⟨n1, n2⟩ := List.nodup_cons.mp nd
    refine .cons (fun y hy => ?_) (lt_of_le_nd h2 n2)
    have := h1 y hy
    have : x ≠ y := fun e => n1 (e ▸ hy)
    omega
end Lw
set_option Elab.async false
set_option linter.all false
set_option maxRecDepth 100000
set_option maxHeartbeats 4000000
namespace Lw
open PySem PySem.Spec PyProof.Rows L2
/-! ### tuples whose object is known to bear no attributes -/
def sealT (xs : List V) (u : HO) : Prop := ∃ o : Obj, o.dict = none ∧ u = .frz o (.tup xs)
theorem sqt_seal {K : PySem.W.Frag} {H : Hp} {a : Addr} {xs : List V} {u : HO} (h : H a = some u) (s : sealT xs u) : SqT K H a xs := by
  obtain ⟨o, _, rfl⟩ := s
  exact .inl (.inr ⟨o, h⟩)
section
variable {X : Cx} {pins : List (Addr × Obj)} {σ : L2.St} {H : Hp} {s : Shared} {Q : VK}
/-- a new tuple, on top of the heap -/
theorem seal_new {h : Heap} {tk : Nat} {xs : List V} {its : List Value} (I : Inv X pins σ H { s with heap := h, toks := tk }) (r : Vals xs its) (hz : xs.length ≤ sizeLine) (q : ∀ p u, H p = none → sealT xs u → Q (.ref p) (upd H p u)) :
    EP X pins σ Q (.ref h.objs.size) { s with heap := h.push { cls := .type "tuple", data := .seq its.toArray }, toks := tk } := by
  have ok : ObjOk X.prog X.w (upd H h.objs.size (.frz { cls := .type "tuple", data := .seq its.toArray } (.tup xs))) (h.push { cls := .type "tuple", data := .seq its.toArray }) h.objs.size (.frz { cls := .type "tuple", data := .seq its.toArray } (.tup xs)) :=
    ⟨Heap.get?_push_size _ rfl, hz, its, r, IsTup.new _ _⟩
  exact ⟨.ref h.objs.size, _, I.laid (t' := tk) (fun b u e => Heap.get?_push_of_some _ e) (Nat.le_refl _) ok, rfl, q _ _ (I.hok.fresh (Nat.le_refl _)) ⟨_, rfl, rfl⟩⟩
variable {es : List Expr} {e o : Expr} {t : TA} {te to : TE} {pos : Pos}
def tTupN (t : TA) : TE := fun σ H Q => t σ H fun xs H1 => xs.length ≤ sizeLine ∧ ∀ p u, H1 p = none → sealT xs u → Q (.ref p) (upd H1 p u)
theorem pe_tupN {x1} (h : PA X es t) : PE X (.Tuple es x1 pos) (tTupN t) := by
  refine ⟨fun pins s σ H Q I hq => ?_⟩
  refine wpAny_Tuple_spliced (thn (h.run pos pins s σ H _ I hq) fun us s1 ⟨xs, H1, I1, r, z, q⟩ => ⟨by rw [← r.length]; exact z, ?_⟩)
  exact seal_new (tk := s1.toks) I1 r z q
/-- tuple(x), x a list -/
def rTupN (K : PySem.W.Frag) : List V → Hp → VK → Prop := fun xs H Q => ∃ p ys, xs = [.ref p] ∧ SqL K H p ys ∧ ∀ l u, H l = none → sealT ys u → Q (.ref l) (upd H l u)
theorem call_tupleN : CallR X (.type "tuple") (rTupN X.K) := by
  intro pins s σ H xs us Q I r h
  obtain ⟨p, ys, rfl, hq, q⟩ := h
  obtain ⟨u, rfl, rx⟩ := vals1 r
  cases rx
  obtain ⟨its, r', pl, hz⟩ := I.list hq
  have hlen := r'.length
  refine call_tuple_list pl.isList (fun h' kp => ?_) (by rw [List.size_toArray]; omega)
  exact seal_new (tk := s.toks) (I.kept (t' := s.toks) kp) r' hz q
/-- t + u -/
def rCatN (K : PySem.W.Frag) : R2 := fun x y H Q => ∃ a b xs ys, x = .ref a ∧ y = .ref b ∧ SqT K H a xs ∧ SqT K H b ys ∧ xs.length + ys.length ≤ sizeLine ∧
  (xs = [] → Q (.ref b) H) ∧ (xs ≠ [] → ys = [] → Q (.ref a) H) ∧ (xs ≠ [] → ys ≠ [] → ∀ p u, H p = none → sealT (xs ++ ys) u → Q (.ref p) (upd H p u))
theorem op_catN : OpR X (binaryOp .Add) (rCatN X.K) := by
  intro pins s σ H x y v u Q I rx ry h
  obtain ⟨a, b, xs, ys, rfl, rfl, ha, hb, hz, q0, q1, q2⟩ := h
  cases rx
  cases ry
  obtain ⟨its, r1, p1, _⟩ := I.tuple ha
  obtain ⟨its2, r2, p2, _⟩ := I.tuple hb
  by_cases hx : xs = []
  · subst hx
    cases r1
    exact cat_tup0 p1 p2 ⟨.ref b, H, I, rfl, q0 rfl⟩
  · refine HT.cat_tup p1 p2 (fun z => hx (r1.nil_iff.mp z)) (fun z => ⟨.ref a, H, I, rfl, q1 hx (r2.nil_iff.mp z)⟩) (fun z => ?_) (by rw [← r1.length, ← r2.length]; exact hz)
    exact seal_new (tk := s.toks) I (r1.append r2) (by rw [List.length_append]; exact hz) (q2 hx fun w => z (r2.nil_iff.mpr w))
/-- t[lo:hi] -/
def rSlN (K : PySem.W.Frag) : V → Option Int → Option Int → Hp → VK → Prop := fun x lo hi H Q => ∃ a xs, x = .ref a ∧ SqT K H a xs ∧
  (HT.sIx xs.length 0 lo = 0 ∧ HT.sIx xs.length xs.length hi = xs.length → Q (.ref a) H) ∧ (¬ (HT.sIx xs.length 0 lo = 0 ∧ HT.sIx xs.length xs.length hi = xs.length) → ∀ p u, H p = none → sealT (cutV xs lo hi) u → Q (.ref p) (upd H p u))
theorem sl_tupN : L2.SlR X (rSlN X.K) := by
  intro pins s σ H x v vl vu lo hi sl Q I rx hs pl pu h
  obtain ⟨a, xs, rfl, hx, q1, q2⟩ := h
  cases rx
  obtain ⟨its, r, ht, hz⟩ := I.tuple hx
  have hlen : its.toArray.size = xs.length := by rw [List.size_toArray]; exact r.length.symm
  refine ⟨"tuple", _, PyProof.Rows.slot_tuple_getitem.lookup, ht.typeIs, ?_⟩
  by_cases hw : HT.sIx xs.length 0 lo = 0 ∧ HT.sIx xs.length xs.length hi = xs.length
  · exact getItem_tuple_whole ht hs pl pu (by rw [hlen]; exact hw) ⟨.ref a, H, I, rfl, q1 hw⟩
  · refine HT.getItem_tuple_cut ht hs pl pu (by rw [hlen]; exact hw) ?_ (by rw [hlen]; exact hz)
    rw [hlen]
    exact seal_new (tk := s.toks) I ((r.drop (HT.sIx xs.length 0 lo)).take (HT.sIx xs.length xs.length hi - HT.sIx xs.length 0 lo)) (Nat.le_trans (cutV_length xs lo hi) hz) (q2 hw)
/-- tuple(range(..)) -/
def tTupRgN (te : L2.St → Hp → (Int → Int → Hp → Prop) → Prop) : TE := fun σ H Q => te σ H fun a b H1 => RgOk a b ∧ ∀ q u, H1 q = none → sealT (rgV a b) u → Q (.ref q) (upd H1 q u)
theorem pe_tupRgN {te : L2.St → Hp → (Int → Int → Hp → Prop) → Prop} {p : Pos} (hc : X.calm = true) (hg : Gl X "tuple") (hm : X.mg "tuple" = none) (he : PRg X e te) (na : starEach [e] X.env = (false, eval e X.env) :: starEach [] X.env := by rfl) :
    PE X (.Call (.Name "tuple" p) [e] [] pos) (tTupRgN te) := by
  refine ⟨fun pins s σ H Q I h => ?_⟩
  refine Call_ (ld_blt I hg hm boot_tuple (PyProof.Rows.callWith_type1 (args_cons (thn (he pins s σ H _ I h) fun x s1 ⟨r, a, b, t, u, v, H1, ex, hr, I1, ok, q⟩ => args_nil ?_) na) na))
  subst ex
  obtain ⟨b1, b2, b3, b4, b5⟩ := ok
  refine call_tuple_range (n := (b - a).toNat) (I1.ok.hd hc) hr (small_one b1 b2 b3 b4) (rangeSize_nat a b) b5 fun h' tk acc hk hi => ?_
  have I2 : Inv X pins σ H1 { s1 with heap := h', toks := tk } := I1.kept hk
  have z := seal_new (tk := tk) I2 (vals_rg hi) (by rw [rgV_length, sizeLine_eq]; omega) q
  rw [Array.toArray_toList] at z
  exact z
/-! ### t[::-1] -/
theorem rev_adjust (n : Nat) : Builtin.Slice.sliceAdjust none none (-1) (n : Int) = ((n : Int) - 1, -1) := rfl
theorem rev_places (n : Nat) : Builtin.Slice.slicePlaces ((n : Int) - 1) (-1) (-1) = n := by
  unfold Builtin.Slice.slicePlaces
  have h1 : ¬ ((-1 : Int) > 0) := by omega
  rw [if_neg h1]
  by_cases h : ((n : Int) - 1) > -1
  · rw [if_pos h]
    have e : -(-1 : Int) = 1 := rfl
    rw [e, Int.ediv_one]
    omega
  · rw [if_neg h]
    omega
theorem fm_congr {α β : Type} {f : α → Option β} {g : α → β} : ∀ l : List α, (∀ m ∈ l, f m = some (g m)) → l.filterMap f = l.map g
  | [], _ => rfl
  | a :: l, h => by
    rw [List.filterMap_cons, h a List.mem_cons_self, List.map_cons, fm_congr l fun m hm => h m (List.mem_cons_of_mem _ hm)]
theorem rev_pick (xs : Array Value) : ((List.range xs.size).filterMap fun (m : Nat) => xs[((xs.size : Int) - 1 + (m : Int) * (-1)).toNat]?).toArray = xs.toList.reverse.toArray := by
  congr 1
  have h : ∀ m ∈ List.range xs.size, xs[((xs.size : Int) - 1 + (m : Int) * (-1)).toNat]? = some (xs.toList.reverse.getD m .none) := fun m hm => by
    have hm := List.mem_range.mp hm
    have e : ((xs.size : Int) - 1 + (m : Int) * (-1)).toNat = xs.size - 1 - m := by omega
    have hl : m < xs.toList.reverse.length := by simpa using hm
    rw [e, List.getD_eq_getElem?_getD, List.getElem?_eq_getElem hl, List.getElem_reverse]
    simp
  rw [fm_congr (g := fun m => xs.toList.reverse.getD m .none) _ h]
  refine List.ext_getElem? fun i => ?_
  rw [List.getElem?_map]
  by_cases hi : i < xs.size
  · rw [List.getElem?_range hi, Option.map_some, List.getD_eq_getElem?_getD, List.getElem?_eq_getElem (by simpa using hi)]
    rfl
  · rw [List.getElem?_eq_none (by simpa using hi), List.getElem?_eq_none (by simpa using hi)]
    rfl
section
variable {prog : Program} {w : World} {A : Around} {E : Value → Shared → Prop} {s : Shared}
theorem applied_rev {sl : Addr} {vl vu vs : Value} {n : Nat} {Q : Int × Int × Nat → Shared → Prop} (hs : s.heap.IsSliceOf sl vl vu vs) (pl : IsPart vl none) (pu : IsPart vu none) (ps : IsPart vs (some (-1)))
    (h : Q ((n : Int) - 1, -1, n) s) : wpAny (model prog w) A (Builtin.Slice.sliceApplied (.ref sl) (pure (n : Int))) Q E s := by
  obtain ⟨os, hos, hcs, hds⟩ := id hs
  unfold Builtin.Slice.sliceApplied Builtin.Slice.sliceFields
  refine wpAny_bind (wpAny_bind (wpAny_field hos hds (x := vl) rfl (wpAny_bind (wpAny_field hos hds (x := vu) rfl (wpAny_bind (wpAny_field hos hds (x := vs) rfl (wpAny_pure ?_)))))))
  refine wpAny_bind (HT.slicePart_ ps ?_)
  show wpAny _ _ (if ((-1 : Int) == 0) = true then _ else _) _ _ s
  rw [if_neg (by decide)]
  refine wpAny_bind (HT.slicePart_ pl (wpAny_bind (HT.slicePart_ pu (wpAny_bind (wpAny_pure ?_)))))
  show wpAny _ _ (pure ((n : Int) - 1, (-1 : Int), Builtin.Slice.slicePlaces ((n : Int) - 1) (-1) (-1))) _ _ s
  rw [rev_places]
  exact wpAny_pure h
theorem getItem_tuple_rev {t sl : Addr} {items : Array Value} {vl vu vs : Value} {Q : Value → Shared → Prop} (ht : IsTup s.heap t items) (hs : s.heap.IsSliceOf sl vl vu vs) (pl : IsPart vl none) (pu : IsPart vu none) (ps : IsPart vs (some (-1)))
    (h : Q (.ref s.heap.objs.size) { s with heap := s.heap.push { cls := .type "tuple", data := .seq items.toList.reverse.toArray } }) (hsz : items.size ≤ sizeLine) : wpAny (model prog w) A (getItem (.ref t) (.ref sl)) Q E s := by
  have htake : sizeOk (.seq items.toList.reverse.toArray) := by
    show items.toList.reverse.toArray.size ≤ sizeLine
    simpa using hsz
  obtain ⟨os, hos, hcs, hds⟩ := id hs
  have hTs : s.TypeIs (.ref sl) "slice" := ⟨os, hos, hcs⟩
  unfold getItem
  try with_reducible refine wpAny_holding ?_
  first | refine wpAny_bind (wpAny_pure ?_) | skip
  refine wpAny_bind (wpAny_sequenceKey ht.typeIs (by decide) ?_)
  refine wpAny_bind (wpAny_callSpecial?_slot (name := Str.ofString "__getitem__") ht.typeIs PyProof.Rows.slot_tuple_getitem
    (wpAny_call_entry PyProof.Rows.slot_tuple_getitem ht.typeIs entry_tuple_getitem ?_ (args_tuple_getitem _ _)))
  show wpAny _ _ (Builtin.Tuple.tupleItemsOf (.ref t) >>= _) _ _ s
  refine wpAny_bind (tupleItemsOf_ ht ?_)
  refine wpAny_bind (wpAny_typeOf hTs ?_)
  rw [if_pos (by decide)]
  refine wpAny_bind (applied_rev hs pl pu ps ?_)
  have hno : ¬ ((((items.size : Int) - 1) == 0 && (-1 : Int) == 1 && items.size == items.size) = true) := by
    simp
  show wpAny _ _ (if ((((items.size : Int) - 1) == 0 && (-1 : Int) == 1 && items.size == items.size) = true) then _ else _) _ _ s
  rw [if_neg hno, rev_pick]
  first
    | exact wpAny_bind (m := Builtin.Tuple.tupleExact _) (wpAny_newObj_type (wpAny_pure ⟨_, rfl, wpAny_pure h⟩) htake)
    | exact wpAny_bind (wpAny_bind (m := Builtin.Tuple.tupleExact _) (wpAny_newObj_type (wpAny_pure ⟨_, rfl, wpAny_pure h⟩) htake))
end
def tRevN (K : PySem.W.Frag) (te : TE) : TE := fun σ H Q => te σ H fun x H1 => ∃ a xs, x = .ref a ∧ SqT K H1 a xs ∧ ∀ p u, H1 p = none → sealT xs.reverse u → Q (.ref p) (upd H1 p u)
theorem pe_revN {k : Nat} {p1 p2 p3 : Pos} (he : PE X e te) : PE X (.Subscript e (.Slice none none (some (.UnaryOp .USub (.Constant (.int 1) k p1) p2)) p3) pos) (tRevN X.K te) := by
  refine ⟨fun pins s σ H Q I h => ?_⟩
  refine Subscript_ (thn (he.run pins s σ H _ I h) fun v s1 ⟨x, H1, I1, r1, q1⟩ => ?_)
  obtain ⟨a, xs, ex, hx, q⟩ := q1
  subst ex
  cases r1
  have hst : PO X (some (.UnaryOp .USub (.Constant (.int 1) k p1) p2)) (tPart (tUn (rU fun i => .int (-i)) (tC (.int 1)))) := po_some (pe_un un_neg pe_int)
  refine wpAny_Slice (thn (po_none.run pins s1 σ H1 (fun o H2 => o = none ∧ H2 = H1) I1 ⟨rfl, rfl⟩) fun vl s2 ⟨l, H2, I2, pl, el, e2⟩ => ?_)
  subst el e2
  refine thn (po_none.run pins s2 σ H2 (fun o H3 => o = none ∧ H3 = H2) I2 ⟨rfl, rfl⟩) fun vu s3 ⟨u, H3, I3, pu, eu, e3⟩ => ?_
  subst eu e3
  refine thn (hst.run pins s3 σ H3 (fun o H4 => o = some (-1) ∧ H4 = H3) I3 ⟨1, rfl, -1, rfl, rfl, rfl⟩) fun vs s4 ⟨o, H4, I4, ps, eo, e4⟩ => ?_
  subst eo e4
  have I5 : Inv X pins σ H4 { s4 with heap := s4.heap.push { cls := .type "slice", data := .fields #[vl, vu, vs] } } := I4.kept (t' := s4.toks) fun b ob q => Heap.get?_push_of_some _ q
  obtain ⟨its, r, ht, hz⟩ := I5.tuple hx
  have hlen := r.length
  show wpAny (model X.prog X.w) X.A (subscriptTail e (.Slice none none (some (.UnaryOp .USub (.Constant (.int 1) k p1) p2)) p3) (.ref a) (.ref s4.heap.objs.size)) (EP X pins σ Q) X.xe { s4 with heap := s4.heap.push { cls := .type "slice", data := .fields #[vl, vu, vs] } }
  refine tail_any (ops := [.ref a, .ref s4.heap.objs.size]) ht.typeIs (PyProof.Rows.slot_tuple_getitem.lookup) ?_ (by with_unfolding_all rfl)
  refine getItem_tuple_rev ht (Heap.IsSliceOf.new _ vl vu vs) pl pu ps ?_ (by rw [List.size_toArray]; omega)
  exact seal_new (tk := s4.toks) I5 r.reverse (by rw [List.length_reverse]; exact hz) q
end
end Lw
set_option Elab.async false
set_option linter.all false
set_option maxRecDepth 100000
namespace Lw
open PySem PySem.Spec PyProof.Rows L2
/-! ### data, as the stable heap G bears it -/
abbrev D := PyData
mutual
inductive Rp (G : Hp) : V → D → Prop
  | non : Rp G .non .none
  | bl (b : Bool) : Rp G (.bl b) (.bool b)
  | int (i : Int) : Rp G (.int i) (.int i)
  | str (x : Str) : Rp G (.str x) (.str x)
  | lst {a : Addr} {xs : List V} {ds : List D} (h : G a = some (.lst xs)) (r : RpL G xs ds) : Rp G (.ref a) (.list ds)
  | tup {a : Addr} {u : HO} {xs : List V} {ds : List D} (h : G a = some u) (s : sealT xs u) (r : RpL G xs ds) : Rp G (.ref a) (.tuple ds)
  | pr {a : Addr} {v w : V} {x y : D} (h : G a = some (.tup [v, w])) (rx : Rp G v x) (ry : Rp G w y) : Rp G (.ref a) (.dict [(x, y)])
inductive RpL (G : Hp) : List V → List D → Prop
  | nil : RpL G [] []
  | cons {v : V} {vs : List V} {d : D} {ds : List D} (h : Rp G v d) (r : RpL G vs ds) : RpL G (v :: vs) (d :: ds)
end
section
variable {G H G' H' : Hp} {v : V} {d : D} {vs : List V} {ds : List D}
/-- a pair that is only taken apart -/
abbrev prD (x y : D) : D := .dict [(x, y)]
mutual
theorem Rp.mono (e : Same G G') : ∀ {v : V} {d : D}, Rp G v d → Rp G' v d
  | _, _, .non => .non
  | _, _, .bl b => .bl b
  | _, _, .int i => .int i
  | _, _, .str x => .str x
  | _, _, .lst h r => .lst (e _ _ h) (RpL.mono e r)
  | _, _, .tup h s r => .tup (e _ _ h) s (RpL.mono e r)
  | _, _, .pr h rx ry => .pr (e _ _ h) (Rp.mono e rx) (Rp.mono e ry)
theorem RpL.mono (e : Same G G') : ∀ {vs : List V} {ds : List D}, RpL G vs ds → RpL G' vs ds
  | _, _, .nil => .nil
  | _, _, .cons h r => .cons (Rp.mono e h) (RpL.mono e r)
end
mutual
/-- no dict within -/
def plain : D → Bool
  | .list xs => plains xs
  | .tuple xs => plains xs
  | .dict _ => false
  | _ => true
def plains : List D → Bool
  | [] => true
  | x :: xs => plain x && plains xs
end
mutual
theorem Rp.dp {K : PySem.W.Frag} : ∀ {v : V} {d : D}, Rp G v d → plain d = true → Dp K G v d
  | _, _, .non, _ => .non
  | _, _, .bl b, _ => .bl b
  | _, _, .int i, _ => .int i
  | _, _, .str x, _ => .str x
  | _, _, .lst h r, p => .lst (SqL.of h) (RpL.dp r (by rw [plain] at p; exact p))
  | _, _, .tup h s r, p => .tup (sqt_seal h s) (RpL.dp r (by rw [plain] at p; exact p))
  | _, _, .pr h rx ry, p => by rw [plain] at p; cases p
theorem RpL.dp {K : PySem.W.Frag} : ∀ {vs : List V} {ds : List D}, RpL G vs ds → plains ds = true → DpAll K G vs ds
  | _, _, .nil, _ => .nil
  | _, _, .cons h r, p => by
    rw [plains, Bool.and_eq_true] at p
    exact .cons (Rp.dp h p.1) (RpL.dp r p.2)
end
theorem RpL.len : ∀ {vs : List V} {ds : List D}, RpL G vs ds → vs.length = ds.length
  | _, _, .nil => rfl
  | _, _, .cons _ r => by rw [List.length_cons, List.length_cons, r.len]
theorem RpL.app : ∀ {vs ws : List V} {ds es : List D}, RpL G vs ds → RpL G ws es → RpL G (vs ++ ws) (ds ++ es)
  | _, _, _, _, .nil, q => q
  | _, _, _, _, .cons h r, q => .cons h (r.app q)
theorem RpL.one (h : Rp G v d) : RpL G [v] [d] := .cons h .nil
theorem RpL.get : ∀ {vs : List V} {ds : List D} {i : Nat} {d : D}, RpL G vs ds → ds[i]? = some d → ∃ v, vs[i]? = some v ∧ Rp G v d
  | _, _, _, _, .nil, e => by simp at e
  | _, _, 0, _, .cons h _, e => by
    simp at e
    subst e
    exact ⟨_, rfl, h⟩
  | _, _, i + 1, d, .cons _ r, e => by
    obtain ⟨v, h1, h2⟩ := r.get (i := i) (d := d) (by simpa using e)
    exact ⟨v, by simpa using h1, h2⟩
theorem RpL.getV : ∀ {vs : List V} {ds : List D} {i : Nat} {v : V}, RpL G vs ds → vs[i]? = some v → ∃ d, ds[i]? = some d ∧ Rp G v d
  | _, _, _, _, .nil, e => by simp at e
  | _, _, 0, _, .cons h _, e => by
    simp at e
    subst e
    exact ⟨_, rfl, h⟩
  | _, _, i + 1, d, .cons _ r, e => by
    obtain ⟨v, h1, h2⟩ := r.getV (i := i) (v := d) (by simpa using e)
    exact ⟨v, by simpa using h1, h2⟩
theorem RpL.set : ∀ {vs : List V} {ds : List D} {v : V} {d : D} (i : Nat), RpL G vs ds → Rp G v d → RpL G (vs.set i v) (ds.set i d)
  | _, _, _, _, _, .nil, _ => .nil
  | _, _, _, _, 0, .cons _ r, h => .cons h r
  | _, _, _, _, i + 1, .cons h r, q => .cons h (r.set i q)
theorem RpL.take : ∀ {vs : List V} {ds : List D} (n : Nat), RpL G vs ds → RpL G (vs.take n) (ds.take n)
  | _, _, 0, _ => .nil
  | _, _, _ + 1, .nil => .nil
  | _, _, n + 1, .cons h r => .cons h (r.take n)
theorem RpL.drop : ∀ {vs : List V} {ds : List D} (n : Nat), RpL G vs ds → RpL G (vs.drop n) (ds.drop n)
  | _, _, 0, r => r
  | _, _, _ + 1, .nil => .nil
  | _, _, n + 1, .cons _ r => r.drop n
theorem RpL.erase : ∀ {vs : List V} {ds : List D} (i : Nat), RpL G vs ds → RpL G (vs.eraseIdx i) (ds.eraseIdx i)
  | _, _, _, .nil => .nil
  | _, _, 0, .cons _ r => r
  | _, _, i + 1, .cons h r => .cons h (r.erase i)
theorem RpL.rev (h : RpL G vs ds) : RpL G vs.reverse ds.reverse := by
  induction ds generalizing vs with
  | nil => cases h; exact .nil
  | cons d ds ih =>
    cases h with
    | cons h r =>
      rw [List.reverse_cons, List.reverse_cons]
      exact (ih r).app (.one h)
theorem RpL.rep (h : Rp G v d) : ∀ n : Nat, RpL G (List.replicate n v) (List.replicate n d)
  | 0 => .nil
  | n + 1 => .cons h (RpL.rep h n)
theorem Rp.intV {i : Int} (h : Rp G v (.int i)) : v = .int i := by cases h; rfl
theorem Rp.blV {b : Bool} (h : Rp G v (.bool b)) : v = .bl b := by cases h; rfl
theorem Rp.nonV (h : Rp G v .none) : v = .non := by cases h; rfl
theorem Rp.strV {x : Str} (h : Rp G v (.str x)) : v = .str x := by cases h; rfl
theorem Rp.lstV (h : Rp G v (.list ds)) : ∃ a xs, v = .ref a ∧ G a = some (.lst xs) ∧ RpL G xs ds := by cases h with | lst h r => exact ⟨_, _, rfl, h, r⟩
theorem Rp.tupV (h : Rp G v (.tuple ds)) : ∃ a u xs, v = .ref a ∧ G a = some u ∧ sealT xs u ∧ RpL G xs ds := by cases h with | tup h s r => exact ⟨_, _, _, rfl, h, s, r⟩
theorem Rp.prV {x y : D} (h : Rp G v (prD x y)) : ∃ a w z, v = .ref a ∧ G a = some (.tup [w, z]) ∧ Rp G w x ∧ Rp G z y := by cases h with | pr h rx ry => exact ⟨_, _, _, rfl, h, rx, ry⟩
theorem RpL.ints : ∀ {vs : List V} {ns : List Int}, RpL G vs (ns.map PyData.int) → vs = ns.map V.int
  | _, [], .nil => rfl
  | _, n :: ns, .cons h r => by
    rw [h.intV, r.ints]
    rfl
theorem RpL.ofInts (G : Hp) : ∀ ns : List Int, RpL G (ns.map V.int) (ns.map PyData.int)
  | [] => .nil
  | n :: ns => .cons (.int n) (RpL.ofInts G ns)
theorem RpL.bls : ∀ {vs : List V} {ns : List Bool}, RpL G vs (ns.map PyData.bool) → vs = ns.map V.bl
  | _, [], .nil => rfl
  | _, n :: ns, .cons h r => by
    rw [h.blV, r.bls]
    rfl
end

/-! ### the two heaps grow -/
/-- a tuple, of either kind -/
def isT (u : HO) : Prop := (∃ xs, u = .tup xs) ∨ ∃ xs, sealT xs u
theorem isT_lst {xs : List V} : ¬ isT (.lst xs) := fun h => by
  rcases h with ⟨_, h⟩ | ⟨_, _, _, h⟩ <;> cases h
theorem isT_dK {xs : List (Key × V)} : ¬ isT (.dK xs) := fun h => by
  rcases h with ⟨_, h⟩ | ⟨_, _, _, h⟩ <;> cases h
theorem isT_dT {xs : List (List Key × V)} : ¬ isT (.dT xs) := fun h => by
  rcases h with ⟨_, h⟩ | ⟨_, _, _, h⟩ <;> cases h
structure Px (H G H' G' : Hp) : Prop where
  h : Same H H'
  g : Same G G'
  s : Same G' H'
  n : ∀ a, G a = Option.none → G' a ≠ Option.none → H a = Option.none ∨ ∃ u, G' a = some u ∧ isT u
section
variable {H G H' G' H2 G2 : Hp}
theorem Px.refl (s : Same G H) : Px H G H G := ⟨Same.refl H, Same.refl G, s, fun a e h => absurd e h⟩
theorem Px.trans (a : Px H G H' G') (b : Px H' G' H2 G2) : Px H G H2 G2 := ⟨a.h.trans b.h, a.g.trans b.g, b.s, fun x e h => by
  by_cases q : G' x = Option.none
  · exact (b.n x q h).imp (Same.free a.h) id
  · exact (a.n x e q).imp id fun ⟨u, z, q⟩ => ⟨u, b.g _ _ z, q⟩⟩
theorem same_new {H : Hp} {p : Addr} {o : HO} (h : H p = Option.none) : Same H (upd H p o) := fun b x e => by
  rw [upd_ne (ne_of_none e h)]
  exact e
/-- a new object, not (yet) in the stable heap -/
theorem Px.new {p : Addr} {o : HO} (s : Same G H) (h : H p = Option.none) : Px H G (upd H p o) G := ⟨same_new h, Same.refl G, s.trans (same_new h), fun a e q => absurd e q⟩
/-- an object of H goes into the stable heap: a new one -/
theorem Px.put {p : Addr} {o : HO} (x : Px H G H' G') (hp : H p = Option.none) (ho : H' p = some o) (hg : G' p = Option.none) : Px H G H' (upd G' p o) :=
  ⟨x.h, x.g.trans (same_new hg), fun b u e => by
    by_cases q : b = p
    · rw [q, upd_same] at e
      rw [q, ho, Option.some.inj e]
    · rw [upd_ne q] at e
      exact x.s b u e, fun a e q => by
    by_cases r : a = p
    · rw [r]; exact .inl hp
    · rw [upd_ne r] at q
      exact (x.n a e q).imp id fun ⟨u, z, q⟩ => ⟨u, by rw [upd_ne r]; exact z, q⟩⟩
theorem Px.new2 {p : Addr} {o : HO} (s : Same G H) (h : H p = Option.none) : Px H G (upd H p o) (upd G p o) := (Px.new s h).put h upd_same (s.free h)
theorem Px.same (x : Px H G H' G') : Same G H' := x.g.trans x.s
end

/-! ### slots -/
/-- what an owned object is, over the stable heap -/
structure Own where
  P : Hp → Addr → HO → Prop
  mono : ∀ {G G' : Hp} {a : Addr} {o : HO}, Same G G' → P G a o → P G' a o
  nt : ∀ {G : Hp} {a : Addr} {o : HO}, P G a o → ¬ isT o
/-- a list that its slot owns -/
def mlist (ds : List D) : Own := ⟨fun G _ o => ∃ xs, o = .lst xs ∧ RpL G xs ds, fun e ⟨xs, h, r⟩ => ⟨xs, h, r.mono e⟩, fun ⟨_, h, _⟩ => by rw [h]; exact isT_lst⟩
/-- a dict by ints, its values ints -/
def mdict (kvs : List (Int × Int)) : Own := ⟨fun _ _ o => o = .dK (kvs.map fun p => (Sum.inl p.1, V.int p.2)), fun _ h => h, fun h => by rw [h]; exact isT_dK⟩
/-- the source of draws: at least b draws are left -/
def tin (a : Addr) (b : Nat) : Own := ⟨fun _ c o => c = a ∧ ∃ x y z : Int, o = .lst [.int x, .int y, .int z] ∧ 0 ≤ x ∧ 0 ≤ y ∧ 0 ≤ z ∧ z + b ≤ 1000000, fun _ h => h, fun ⟨_, _, _, _, h, _⟩ => by rw [h]; exact isT_lst⟩
theorem tin_less {a q : Addr} {b c : Nat} {G : Hp} {o : HO} (h : (tin a b).P G q o) (e : c ≤ b) : (tin a c).P G q o := by
  obtain ⟨h0, x, y, z, h1, h2, h3, h4, h5⟩ := h
  exact ⟨h0, x, y, z, h1, h2, h3, h4, by omega⟩
inductive Sl where
  | d (x : D)
  | o (w : Own)
abbrev Rho := List (Option Sl)
def SlR (H G : Hp) (v : V) : Sl → Prop
  | .d x => Rp G v x
  | .o w => ∃ a o, v = .ref a ∧ H a = some o ∧ G a = Option.none ∧ w.P G a o
structure Ok (σ : L2.St) (H G : Hp) (ρ : Rho) : Prop where
  sub : Same G H
  len : σ.length = ρ.length
  at_ : ∀ (i : Nat) (s : Sl), ρ[i]? = some (some s) → ∃ v, σ[i]? = some (some v) ∧ SlR H G v s
  sep : ∀ (i j : Nat) (w w' : Own) (a : Addr), ρ[i]? = some (some (.o w)) → ρ[j]? = some (some (.o w')) → σ[i]? = some (some (.ref a)) → σ[j]? = some (some (.ref a)) → i = j
section
variable {σ : L2.St} {H G H' G' : Hp} {ρ : Rho}
theorem SlR.px {v : V} {s : Sl} (h : SlR H G v s) (x : Px H G H' G') : SlR H' G' v s := by
  cases s with
  | d y => exact Rp.mono x.g h
  | o w =>
    obtain ⟨a, o, e, h1, h2, h3⟩ := h
    refine ⟨a, o, e, x.h _ _ h1, ?_, w.mono x.g h3⟩
    cases q : G' a with
    | none => rfl
    | some u =>
      rcases x.n a h2 (by rw [q]; exact fun z => nomatch z) with z | ⟨y, z, t⟩
      · rw [h1] at z
        cases z
      · have e1 := x.s _ _ z
        rw [x.h _ _ h1] at e1
        rw [Option.some.inj e1] at h3
        exact absurd t (w.nt h3)
theorem Ok.px (k : Ok σ H G ρ) (x : Px H G H' G') : Ok σ H' G' ρ :=
  ⟨x.s, k.len, fun i s e => let ⟨v, h1, h2⟩ := k.at_ i s e; ⟨v, h1, h2.px x⟩, k.sep⟩
theorem Ok.d (k : Ok σ H G ρ) {i : Nat} {x : D} (e : ρ[i]? = some (some (.d x))) : ∃ v, σ[i]? = some (some v) ∧ Rp G v x := k.at_ i _ e
theorem Ok.o (k : Ok σ H G ρ) {i : Nat} {w : Own} (e : ρ[i]? = some (some (.o w))) : ∃ a o, σ[i]? = some (some (.ref a)) ∧ H a = some o ∧ G a = Option.none ∧ w.P G a o := by
  obtain ⟨v, h1, a, o, rfl, h2⟩ := k.at_ i _ e
  exact ⟨a, o, h1, h2⟩
/-- a stable value into a slot -/
theorem Ok.setD (k : Ok σ H G ρ) {i : Nat} {v : V} {x : D} (h : Rp G v x) : Ok (σ.set i (some v)) H G (ρ.set i (some (.d x))) := by
  refine ⟨k.sub, by rw [List.length_set, List.length_set, k.len], fun j s e => ?_, fun a b w w' c e1 e2 e3 e4 => ?_⟩
  · by_cases q : i = j
    · subst q
      by_cases hi : i < ρ.length
      · rw [List.getElem?_set_self hi] at e
        have := Option.some.inj (Option.some.inj e)
        subst this
        exact ⟨v, by rw [List.getElem?_set_self (by rw [k.len]; exact hi)], h⟩
      · rw [List.getElem?_eq_none (by rw [List.length_set]; omega)] at e
        cases e
    · rw [List.getElem?_set_ne q] at e ⊢
      exact k.at_ j s e
  · have ne : ∀ {a : Nat} {w : Own}, (ρ.set i (some (.d x)))[a]? = some (some (.o w)) → i ≠ a ∧ ρ[a]? = some (some (.o w)) := fun {a w} e => by
      by_cases q : i = a
      · subst q
        by_cases hi : i < ρ.length
        · rw [List.getElem?_set_self hi] at e
          cases e
        · rw [List.getElem?_eq_none (by rw [List.length_set]; omega)] at e
          cases e
      · rw [List.getElem?_set_ne q] at e
        exact ⟨q, e⟩
    obtain ⟨n1, e1⟩ := ne e1
    obtain ⟨n2, e2⟩ := ne e2
    rw [List.getElem?_set_ne n1] at e3
    rw [List.getElem?_set_ne n2] at e4
    exact k.sep a b w w' c e1 e2 e3 e4
/-- a slot forgotten -/
theorem Ok.setN (k : Ok σ H G ρ) {i : Nat} {v : Option V} : Ok (σ.set i v) H G (ρ.set i none) := by
  have ne : ∀ {a : Nat} {s : Sl}, (ρ.set i none)[a]? = some (some s) → i ≠ a ∧ ρ[a]? = some (some s) := fun {a s} e => by
    by_cases q : i = a
    · subst q
      by_cases hi : i < ρ.length
      · rw [List.getElem?_set_self hi] at e
        cases e
      · rw [List.getElem?_eq_none (by rw [List.length_set]; omega)] at e
        cases e
    · rw [List.getElem?_set_ne q] at e
      exact ⟨q, e⟩
  refine ⟨k.sub, by rw [List.length_set, List.length_set, k.len], fun j s e => ?_, fun a b w w' c e1 e2 e3 e4 => ?_⟩
  · obtain ⟨n, e⟩ := ne e
    rw [List.getElem?_set_ne n]
    exact k.at_ j s e
  · obtain ⟨n1, e1⟩ := ne e1
    obtain ⟨n2, e2⟩ := ne e2
    rw [List.getElem?_set_ne n1] at e3
    rw [List.getElem?_set_ne n2] at e4
    exact k.sep a b w w' c e1 e2 e3 e4
/-- an owned object into a slot: nobody else's -/
theorem Ok.setO (k : Ok σ H G ρ) {i : Nat} {a : Addr} {o : HO} {w : Own} (hi : i < ρ.length) (h : H a = some o) (hg : G a = Option.none) (hw : w.P G a o) (hn : ∀ j w', j ≠ i → ρ[j]? = some (some (.o w')) → σ[j]? ≠ some (some (.ref a))) :
    Ok (σ.set i (some (.ref a))) H G (ρ.set i (some (.o w))) := by
  have hs : i < σ.length := by rw [k.len]; exact hi
  refine ⟨k.sub, by rw [List.length_set, List.length_set, k.len], fun j s e => ?_, fun b c w1 w2 x e1 e2 e3 e4 => ?_⟩
  · by_cases q : i = j
    · subst q
      rw [List.getElem?_set_self hi] at e
      have := Option.some.inj (Option.some.inj e)
      subst this
      exact ⟨.ref a, by rw [List.getElem?_set_self hs], a, o, rfl, h, hg, hw⟩
    · rw [List.getElem?_set_ne q] at e ⊢
      exact k.at_ j s e
  · by_cases q1 : i = b
    · by_cases q2 : i = c
      · rw [← q1, ← q2]
      · subst q1
        rw [List.getElem?_set_self hs] at e3
        rw [List.getElem?_set_ne q2] at e2 e4
        have ea := Option.some.inj (Option.some.inj e3)
        rw [← ea] at e4
        exact absurd e4 (hn c w2 (Ne.symm q2) e2)
    · by_cases q2 : i = c
      · subst q2
        rw [List.getElem?_set_self hs] at e4
        rw [List.getElem?_set_ne q1] at e1 e3
        have ea := Option.some.inj (Option.some.inj e4)
        rw [← ea] at e3
        exact absurd e3 (hn b w1 (Ne.symm q1) e1)
      · rw [List.getElem?_set_ne q1] at e1 e3
        rw [List.getElem?_set_ne q2] at e2 e4
        exact k.sep b c w1 w2 x e1 e2 e3 e4
/-- an owned object is changed -/
theorem Ok.chg (k : Ok σ H G ρ) {i : Nat} {a : Addr} {o : HO} {w w' : Own} (e : ρ[i]? = some (some (.o w))) (es : σ[i]? = some (some (.ref a))) (hg : G a = Option.none) (hw : w'.P G a o) :
    Ok σ (upd H a o) G (ρ.set i (some (.o w'))) := by
  have hi : i < ρ.length := (List.getElem?_eq_some_iff.mp e).1
  refine ⟨fun b u hb => ?_, by rw [List.length_set, k.len], fun j s ej => ?_, fun b c w1 w2 x e1 e2 e3 e4 => ?_⟩
  · have : b ≠ a := fun z => by rw [z, hg] at hb; cases hb
    rw [upd_ne this]
    exact k.sub b u hb
  · by_cases q : i = j
    · subst q
      rw [List.getElem?_set_self hi] at ej
      have := Option.some.inj (Option.some.inj ej)
      subst this
      exact ⟨.ref a, es, a, o, rfl, upd_same, hg, hw⟩
    · rw [List.getElem?_set_ne q] at ej
      obtain ⟨v, h1, h2⟩ := k.at_ j s ej
      refine ⟨v, h1, ?_⟩
      cases s with
      | d y => exact h2
      | o w2 =>
        obtain ⟨b, u, rfl, h3, h4⟩ := h2
        have : b ≠ a := fun z => by
          subst z
          exact q (k.sep i j w w2 b e ej es h1)
        exact ⟨b, u, rfl, by rw [upd_ne this]; exact h3, h4⟩
  · have key : ∀ {b : Nat} {w1 : Own}, (ρ.set i (some (.o w')))[b]? = some (some (.o w1)) → ∃ w2, ρ[b]? = some (some (.o w2)) := fun {b w1} e1 => by
      by_cases q : i = b
      · subst q; exact ⟨w, e⟩
      · rw [List.getElem?_set_ne q] at e1
        exact ⟨w1, e1⟩
    obtain ⟨u1, e1⟩ := key e1
    obtain ⟨u2, e2⟩ := key e2
    exact k.sep b c u1 u2 x e1 e2 e3 e4
/-- what a slot owns goes into the stable heap -/
theorem Ok.frz (k : Ok σ H G ρ) {i : Nat} {a : Addr} {o : HO} {w : Own} {x : D} (e : ρ[i]? = some (some (.o w))) (es : σ[i]? = some (some (.ref a))) (h : H a = some o) (hg : G a = Option.none) (hx : Rp (upd G a o) (.ref a) x) :
    Ok σ H (upd G a o) (ρ.set i (some (.d x))) := by
  have hi : i < ρ.length := (List.getElem?_eq_some_iff.mp e).1
  refine ⟨fun b u hb => ?_, by rw [List.length_set, k.len], fun j s ej => ?_, fun b c w1 w2 y e1 e2 e3 e4 => ?_⟩
  · by_cases q : b = a
    · rw [q, upd_same] at hb
      rw [q, h, Option.some.inj hb]
    · rw [upd_ne q] at hb
      exact k.sub b u hb
  · by_cases q : i = j
    · subst q
      rw [List.getElem?_set_self hi] at ej
      have := Option.some.inj (Option.some.inj ej)
      subst this
      exact ⟨.ref a, es, hx⟩
    · rw [List.getElem?_set_ne q] at ej
      obtain ⟨v, h1, h2⟩ := k.at_ j s ej
      refine ⟨v, h1, ?_⟩
      cases s with
      | d y => exact Rp.mono (same_new hg) h2
      | o w2 =>
        obtain ⟨b, u, rfl, h3, h4, h5⟩ := h2
        have : b ≠ a := fun z => by
          subst z
          exact q (k.sep i j w w2 b e ej es h1)
        exact ⟨b, u, rfl, h3, by rw [upd_ne this]; exact h4, w2.mono (same_new hg) h5⟩
  · have key : ∀ {b : Nat} {w1 : Own}, (ρ.set i (some (.d x)))[b]? = some (some (.o w1)) → ρ[b]? = some (some (.o w1)) := fun {b w1} e1 => by
      by_cases q : i = b
      · subst q
        rw [List.getElem?_set_self hi] at e1
        cases e1
      · rw [List.getElem?_set_ne q] at e1
        exact e1
    exact k.sep b c w1 w2 y (key e1) (key e2) e3 e4
end
end Lw
set_option Elab.async false
set_option linter.all false
set_option maxRecDepth 100000
namespace Lw
open PySem PySem.Spec PyProof.Rows L2
/-! ### borrowed readings -/
def Bq (H G : Hp) (v : V) (d : D) : Prop := Rp G v d ∨ ∃ a xs ds, v = .ref a ∧ d = .list ds ∧ H a = some (.lst xs) ∧ RpL G xs ds
inductive BqL (H G : Hp) : List V → List D → Prop
  | nil : BqL H G [] []
  | cons {v : V} {vs : List V} {d : D} {ds : List D} (h : Bq H G v d) (r : BqL H G vs ds) : BqL H G (v :: vs) (d :: ds)
section
variable {H G H' G' : Hp} {v : V} {d : D} {vs : List V} {ds : List D}
theorem Bq.px (h : Bq H G v d) (x : Px H G H' G') : Bq H' G' v d := by
  rcases h with h | ⟨a, xs, ds, e1, e2, e3, e4⟩
  · exact .inl (h.mono x.g)
  · exact .inr ⟨a, xs, ds, e1, e2, x.h _ _ e3, e4.mono x.g⟩
theorem BqL.px (x : Px H G H' G') : ∀ {vs : List V} {ds : List D}, BqL H G vs ds → BqL H' G' vs ds
  | _, _, .nil => .nil
  | _, _, .cons h r => .cons (h.px x) (r.px x)
theorem Bq.rp (s : Same G H) (h : Bq H G v d) : Rp H v d := by
  rcases h with h | ⟨a, xs, ds, rfl, rfl, e3, e4⟩
  · exact h.mono s
  · exact .lst e3 (e4.mono s)
theorem BqL.rp (s : Same G H) : ∀ {vs : List V} {ds : List D}, BqL H G vs ds → RpL H vs ds
  | _, _, .nil => .nil
  | _, _, .cons h r => .cons (h.rp s) (r.rp s)
theorem BqL.of : ∀ {vs : List V} {ds : List D}, RpL G vs ds → BqL H G vs ds
  | _, _, .nil => .nil
  | _, _, .cons h r => .cons (.inl h) (.of r)
theorem Bq.intV {i : Int} (h : Bq H G v (.int i)) : v = .int i := by
  rcases h with h | ⟨_, _, _, _, e, _⟩
  · exact h.intV
  · cases e
theorem Bq.blV {b : Bool} (h : Bq H G v (.bool b)) : v = .bl b := by
  rcases h with h | ⟨_, _, _, _, e, _⟩
  · exact h.blV
  · cases e
theorem Bq.nonV (h : Bq H G v .none) : v = .non := by
  rcases h with h | ⟨_, _, _, _, e, _⟩
  · exact h.nonV
  · cases e
theorem Bq.strV {x : Str} (h : Bq H G v (.str x)) : v = .str x := by
  rcases h with h | ⟨_, _, _, _, e, _⟩
  · exact h.strV
  · cases e
theorem Bq.lstV (s : Same G H) (h : Bq H G v (.list ds)) : ∃ a xs, v = .ref a ∧ H a = some (.lst xs) ∧ RpL G xs ds := by
  rcases h with h | ⟨a, xs, ds', e1, e2, e3, e4⟩
  · obtain ⟨a, xs, e, h1, h2⟩ := h.lstV
    exact ⟨a, xs, e, s _ _ h1, h2⟩
  · cases e2
    exact ⟨a, xs, e1, e3, e4⟩
theorem Bq.tupV (s : Same G H) (h : Bq H G v (.tuple ds)) : ∃ a u xs, v = .ref a ∧ H a = some u ∧ sealT xs u ∧ RpL G xs ds := by
  rcases h with h | ⟨_, _, _, _, e, _⟩
  · obtain ⟨a, u, xs, e, h1, h2, h3⟩ := h.tupV
    exact ⟨a, u, xs, e, s _ _ h1, h2, h3⟩
  · cases e
theorem BqL.one {d : D} (h : BqL H G vs [d]) : ∃ v, vs = [v] ∧ Bq H G v d := by
  cases h with | cons h r => cases r; exact ⟨_, rfl, h⟩
theorem BqL.two {d e : D} (h : BqL H G vs [d, e]) : ∃ v w, vs = [v, w] ∧ Bq H G v d ∧ Bq H G w e := by
  cases h with | cons h r => cases r with | cons h2 r => cases r; exact ⟨_, _, rfl, h, h2⟩
end

/-! ### judgements -/
def EvE (te : TE) (ρ : Rho) (d : D) : Prop := ∀ σ H G, Ok σ H G ρ → ∀ Q : VK, (∀ v H' G', Px H G H' G' → Rp G' v d → Q v H') → te σ H Q
def EvP (te : TE) (ρ : Rho) (P : D → Prop) : Prop := ∀ σ H G, Ok σ H G ρ → ∀ Q : VK, (∀ v d H' G', Px H G H' G' → Rp G' v d → P d → Q v H') → te σ H Q
def EvB (te : TE) (ρ : Rho) (d : D) : Prop := ∀ σ H G, Ok σ H G ρ → ∀ Q : VK, (∀ v H' G', Px H G H' G' → Bq H' G' v d → Q v H') → te σ H Q
def EvF (te : TE) (ρ : Rho) (w : Own) : Prop := ∀ σ H G, Ok σ H G ρ → ∀ Q : VK, (∀ a o H' G', Px H G H' G' → H a = Option.none → H' a = some o → G' a = Option.none → w.P G' a o → Q (.ref a) H') → te σ H Q
def EvT (tt : TT) (ρ : Rho) (b : Bool) : Prop := ∀ σ H G, Ok σ H G ρ → ∀ Q : Bool → Hp → Prop, (∀ H' G', Px H G H' G' → Q b H') → tt σ H Q
/-- stable arguments; borrowed ones -/
def EvS (ta : TA) (ρ : Rho) (ds : List D) : Prop := ∀ σ H G, Ok σ H G ρ → ∀ Q : List V → Hp → Prop, (∀ vs H' G', Px H G H' G' → RpL G' vs ds → Q vs H') → ta σ H Q
def EvA (ta : TA) (ρ : Rho) (ds : List D) : Prop := ∀ σ H G, Ok σ H G ρ → ∀ Q : List V → Hp → Prop, (∀ vs H' G', Px H G H' G' → BqL H' G' vs ds → Q vs H') → ta σ H Q
section
variable {K : PySem.W.Frag} {ρ : Rho} {te ta tb tc : TE} {tt tu : TT} {ts tr : TA} {d x y z : D} {xs ys ds : List D} {P : D → Prop} {w : Own}
theorem EvE.b (h : EvE te ρ d) : EvB te ρ d := fun σ H G k Q q => h σ H G k Q fun v H' G' x r => q v H' G' x (.inl r)
theorem EvE.p (h : EvE te ρ d) (hp : P d) : EvP te ρ P := fun σ H G k Q q => h σ H G k Q fun v H' G' x r => q v d H' G' x r hp
theorem EvP.e (h : EvP te ρ fun z => z = d) : EvE te ρ d := fun σ H G k Q q => h σ H G k Q fun v z H' G' x r e => q v H' G' x (by rw [← e]; exact r)
theorem EvP.imp {P' : D → Prop} (h : EvP te ρ P) (i : ∀ z, P z → P' z) : EvP te ρ P' := fun σ H G k Q q => h σ H G k Q fun v z H' G' x r e => q v z H' G' x r (i z e)
theorem EvE.is (h : EvE te ρ x) (e : x = y) : EvE te ρ y := by rw [← e]; exact h
theorem EvB.is (h : EvB te ρ x) (e : x = y) : EvB te ρ y := by rw [← e]; exact h
theorem EvT.is {a b : Bool} (h : EvT tt ρ a) (e : a = b) : EvT tt ρ b := by rw [← e]; exact h
theorem EvS.is (h : EvS ts ρ xs) (e : xs = ys) : EvS ts ρ ys := by rw [← e]; exact h
theorem EvF.e (h : EvF te ρ (mlist ds)) : EvE te ρ (.list ds) := fun σ H G k Q q => h σ H G k Q fun a o H' G' x ha ho hg hw => by
  obtain ⟨xs, rfl, r⟩ := hw
  exact q (.ref a) H' _ (x.put ha ho hg) (.lst upd_same (r.mono (same_new hg)))
theorem EvF.b (h : EvF te ρ (mlist ds)) : EvB te ρ (.list ds) := h.e.b
theorem EvF.is {w' : Own} (h : EvF te ρ w) (e : w = w') : EvF te ρ w' := by rw [← e]; exact h
theorem EvS.a (h : EvS ts ρ ds) : EvA ts ρ ds := fun σ H G k Q q => h σ H G k Q fun v H' G' x r => q v H' G' x (.of r)
/-- a weaker env -/
theorem Ok.sub' {σ : L2.St} {H G : Hp} (k : Ok σ H G ρ) : Px H G H G := Px.refl k.sub

/-! ### names, constants -/
theorem e_var {i : Nat} (h : ρ[i]? = some (some (.d x))) : EvE (tVar i) ρ x := fun σ H G k Q q => by
  obtain ⟨v, h1, h2⟩ := k.d h
  exact ⟨v, h1, q v H G (Px.refl k.sub) h2⟩
theorem b_var {i : Nat} (h : ρ[i]? = some (some (.o (mlist xs)))) : EvB (tVar i) ρ (.list xs) := fun σ H G k Q q => by
  obtain ⟨a, o, h1, h2, h3, vs, rfl, r⟩ := k.o h
  exact ⟨.ref a, h1, q _ H G (Px.refl k.sub) (.inr ⟨a, vs, xs, rfl, rfl, h2, r⟩)⟩
theorem e_int {i : Int} : EvE (tC (.int i)) ρ (.int i) := fun σ H G k Q q => q _ H G (Px.refl k.sub) (.int i)
theorem e_bl {b : Bool} : EvE (tC (.bl b)) ρ (.bool b) := fun σ H G k Q q => q _ H G (Px.refl k.sub) (.bl b)
theorem e_str {s : Str} : EvE (tC (.str s)) ρ (.str s) := fun σ H G k Q q => q _ H G (Px.refl k.sub) (.str s)
theorem e_non : EvE (tC .non) ρ .none := fun σ H G k Q q => q _ H G (Px.refl k.sub) .non

/-! ### argument lists -/
theorem s_nil : EvS tNil ρ [] := fun σ H G k Q q => q [] H G (Px.refl k.sub) .nil
theorem s_cons (h : EvE te ρ x) (r : EvS ts ρ xs) : EvS (tCons te ts) ρ (x :: xs) := fun σ H G k Q q =>
  h σ H G k _ fun v H1 G1 x1 r1 => r σ H1 G1 (k.px x1) _ fun vs H2 G2 x2 r2 => q _ H2 G2 (x1.trans x2) (.cons (r1.mono x2.g) r2)
theorem a_nil : EvA tNil ρ [] := s_nil.a
theorem a_cons (h : EvB te ρ x) (r : EvA ts ρ xs) : EvA (tCons te ts) ρ (x :: xs) := fun σ H G k Q q =>
  h σ H G k _ fun v H1 G1 x1 r1 => r σ H1 G1 (k.px x1) _ fun vs H2 G2 x2 r2 => q _ H2 G2 (x1.trans x2) (.cons (r1.px x2) r2)

/-! ### displays -/
theorem e_tup (h : EvS ts ρ xs) (hl : xs.length ≤ 100000) : EvE (tTupN ts) ρ (.tuple xs) := fun σ H G k Q q =>
  h σ H G k _ fun vs H1 G1 x1 r1 => ⟨by rw [r1.len]; exact Nat.le_trans hl (by decide), fun p u hp hu => q _ _ _ (x1.trans (Px.new2 x1.s hp)) (.tup upd_same hu (r1.mono (same_new (x1.s.free hp))))⟩
/-- a pair that is only taken apart -/
theorem e_pair (h : EvS ts ρ [x, y]) : EvE (tTup ts) ρ (prD x y) := fun σ H G k Q q =>
  h σ H G k _ fun vs H1 G1 x1 r1 => by
    cases r1 with
    | @cons v _ _ _ h1 r1 =>
      cases r1 with
      | @cons w _ _ _ h2 r1 =>
        cases r1
        refine ⟨by show 2 ≤ sizeLine; decide, fun p hp => ?_⟩
        exact q _ _ _ (x1.trans (Px.new2 x1.s hp)) (.pr upd_same (h1.mono (same_new (x1.s.free hp))) (h2.mono (same_new (x1.s.free hp))))
theorem f_lst (h : EvS ts ρ xs) (hl : xs.length ≤ 100000) : EvF (tLst ts) ρ (mlist xs) := fun σ H G k Q q =>
  h σ H G k _ fun vs H1 G1 x1 r1 => ⟨by rw [r1.len]; exact Nat.le_trans hl (by decide), fun p hp => q _ _ _ _ (x1.trans (Px.new x1.s hp)) (x1.h.free hp) upd_same (x1.s.free hp) ⟨vs, rfl, r1⟩⟩
theorem e_lst (h : EvS ts ρ xs) (hl : xs.length ≤ 100000) : EvE (tLst ts) ρ (.list xs) := (f_lst h hl).e

/-! ### operators by values -/
def OpD (r : R2) (x y z : D) : Prop := ∀ H G v u, Same G H → Bq H G v x → Bq H G u y → ∀ Q : VK, (∀ w H' G', Px H G H' G' → Rp G' w z → Q w H') → r v u H Q
def OpF (r : R2) (x y : D) (w : Own) : Prop := ∀ H G v u, Same G H → Bq H G v x → Bq H G u y → ∀ Q : VK, (∀ a o H' G', Px H G H' G' → H a = Option.none → H' a = some o → G' a = Option.none → w.P G' a o → Q (.ref a) H') → r v u H Q
theorem e_op {r : R2} (ha : EvB ta ρ x) (hb : EvB tb ρ y) (ho : OpD r x y z) : EvE (tOp r ta tb) ρ z := fun σ H G k Q q =>
  ha σ H G k _ fun v H1 G1 x1 r1 => hb σ H1 G1 (k.px x1) _ fun u H2 G2 x2 r2 => ho H2 G2 v u x2.s (r1.px x2) r2 Q fun w' H3 G3 x3 r3 => q w' H3 G3 ((x1.trans x2).trans x3) r3
theorem f_op {r : R2} (ha : EvB ta ρ x) (hb : EvB tb ρ y) (ho : OpF r x y w) : EvF (tOp r ta tb) ρ w := fun σ H G k Q q =>
  ha σ H G k _ fun v H1 G1 x1 r1 => hb σ H1 G1 (k.px x1) _ fun u H2 G2 x2 r2 => ho H2 G2 v u x2.s (r1.px x2) r2 Q fun a o H3 G3 x3 n3 h3 g3 w3 => q a o H3 G3 ((x1.trans x2).trans x3) ((x1.h.trans x2.h).free n3) h3 g3 w3
/-- a flat answer that leaves the heap -/
theorem opd_flat {r : R2} {u : V} (hz : ∀ G, Rp G u z) (h : ∀ H G v v', Same G H → Bq H G v x → Bq H G v' y → ∀ Q : VK, Q u H → r v v' H Q) : OpD r x y z := fun H G v v' s b1 b2 Q q => h H G v v' s b1 b2 Q (q u H G (Px.refl s) (hz G))
theorem o_I0 {g : Int → Int → V} {i j : Int} (hz : ∀ G, Rp G (g i j) z) : OpD (rI0 g) (.int i) (.int j) z := opd_flat hz fun H G v u _ b1 b2 Q q => ⟨i, j, b1.intV, b2.intV, q⟩
theorem o_add {i j : Int} : OpD (rI0 fun i j => .int (i + j)) (.int i) (.int j) (.int (i + j)) := o_I0 fun _ => .int _
theorem o_sub {i j : Int} : OpD (rI0 fun i j => .int (i - j)) (.int i) (.int j) (.int (i - j)) := o_I0 fun _ => .int _
theorem o_lt {i j : Int} : OpD (rI0 fun i j => .bl (decide (i < j))) (.int i) (.int j) (.bool (decide (i < j))) := o_I0 fun _ => .bl _
theorem o_le {i j : Int} : OpD (rI0 fun i j => .bl (decide (i ≤ j))) (.int i) (.int j) (.bool (decide (i ≤ j))) := o_I0 fun _ => .bl _
theorem o_gt {i j : Int} : OpD (rI0 fun i j => .bl (decide (j < i))) (.int i) (.int j) (.bool (decide (j < i))) := o_I0 fun _ => .bl _
theorem o_ge {i j : Int} : OpD (rI0 fun i j => .bl (decide (j ≤ i))) (.int i) (.int j) (.bool (decide (j ≤ i))) := o_I0 fun _ => .bl _
theorem o_I {C : Int → Int → Prop} {g : Int → Int → V} {i j : Int} (hc : C i j) (hz : ∀ G, Rp G (g i j) z) : OpD (rI C g) (.int i) (.int j) z := opd_flat hz fun H G v u _ b1 b2 Q q => ⟨i, j, b1.intV, b2.intV, hc, q⟩
theorem o_mul {i j : Int} (hc : CMul i j) : OpD (rI CMul fun i j => .int (i * j)) (.int i) (.int j) (.int (i * j)) := o_I hc fun _ => .int _
theorem o_mod {i j : Int} (hc : 0 < j) : OpD (rI (fun _ j => 0 < j) fun i j => .int (i % j)) (.int i) (.int j) (.int (i % j)) := o_I hc fun _ => .int _
theorem o_div {i j : Int} (hc : CDiv i j) : OpD (rI CDiv fun i j => .int (i / j)) (.int i) (.int j) (.int (i / j)) := o_I hc fun _ => .int _
theorem o_pow {i j : Int} (hc : CPow i j) : OpD (rI CPow fun i j => .int (i ^ j.toNat)) (.int i) (.int j) (.int (i ^ j.toNat)) := o_I hc fun _ => .int _
/-- == at any depth -/
def okD (x : D) : Bool := plain x && SeqAt.shaped x
theorem o_eq (hx : okD x = true) (hy : okD y = true) : OpD (rEqD K) x y (.bool (PyData.eqv x y)) := opd_flat (fun _ => .bl _) fun H G v u s b1 b2 Q q => ⟨x, y, (b1.rp s).dp (Bool.and_eq_true_iff.mp hx).1, (b2.rp s).dp (Bool.and_eq_true_iff.mp hy).1, (Bool.and_eq_true_iff.mp hx).2, (Bool.and_eq_true_iff.mp hy).2, q⟩
theorem o_ne (hx : okD x = true) (hy : okD y = true) : OpD (rNeD K) x y (.bool (!PyData.eqv x y)) := opd_flat (fun _ => .bl _) fun H G v u s b1 b2 Q q => ⟨x, y, (b1.rp s).dp (Bool.and_eq_true_iff.mp hx).1, (b2.rp s).dp (Bool.and_eq_true_iff.mp hy).1, (Bool.and_eq_true_iff.mp hx).2, (Bool.and_eq_true_iff.mp hy).2, q⟩
def isNon : D → Bool
  | .none => true
  | _ => false
theorem isNon_v {H G : Hp} {v : V} (b : Bq H G v x) : decide (v = .non) = isNon x := by
  rcases b with b | ⟨a, xs, ds, rfl, rfl, _⟩
  · cases b <;> rfl
  · rfl
def rIsN : R2 := fun x y H Q => y = .non ∧ Q (.bl (decide (x = .non))) H
def rNotN : R2 := fun x y H Q => y = .non ∧ Q (.bl (!decide (x = .non))) H
theorem o_isN : OpD rIsN x .none (.bool (isNon x)) := fun H G v u s b1 b2 Q q => ⟨b2.nonV, by rw [isNon_v b1]; exact q _ H G (Px.refl s) (.bl _)⟩
theorem o_notN : OpD rNotN x .none (.bool (!isNon x)) := fun H G v u s b1 b2 Q q => ⟨b2.nonV, by rw [isNon_v b1]; exact q _ H G (Px.refl s) (.bl _)⟩
/-- in, not in: whole numbers -/
theorem inV_int (k : Int) : ∀ ns : List Int, inV (.int k) (ns.map V.int) = decide (k ∈ ns)
  | [] => rfl
  | n :: ns => by
    have ih := inV_int k ns
    unfold inV at ih ⊢
    rw [List.map_cons, List.any_cons, ih]
    have e : eqV (.int n) (.int k) = decide (n = k) := by
      first | rfl | (unfold eqV; simp)
    rw [e]
    by_cases h : n = k
    · subst h; simp
    · have : k ≠ n := fun z => h z.symm
      simp [h, this]
theorem flat_ints (ns : List Int) : (ns.map V.int).all flatV = true := by
  rw [List.all_eq_true]
  intro v hv
  obtain ⟨n, _, rfl⟩ := List.mem_map.mp hv
  rfl
theorem in_raw {neg : Bool} {k : Int} {ns : List Int} {H G : Hp} {v u : V} {Q : VK} (s : Same G H) (b1 : Bq H G v (.int k)) (b2 : Bq H G u (.list (ns.map .int)) ∨ Bq H G u (.tuple (ns.map .int)))
    (q : Q (.bl (if neg then !decide (k ∈ ns) else decide (k ∈ ns))) H) : rIn K neg v u H Q := by
  have e1 := b1.intV
  subst e1
  rcases b2 with b2 | b2
  · obtain ⟨a, xs, rfl, h, r⟩ := b2.lstV s
    have e2 := r.ints
    subst e2
    exact ⟨a, _, rfl, .inl (SqL.of h), rfl, flat_ints ns, by rw [inV_int]; exact q⟩
  · obtain ⟨a, u, xs, rfl, h, hu, r⟩ := b2.tupV s
    have e2 := r.ints
    subst e2
    exact ⟨a, _, rfl, .inr (sqt_seal h hu), rfl, flat_ints ns, by rw [inV_int]; exact q⟩
theorem o_inL {k : Int} {ns : List Int} : OpD (rIn K false) (.int k) (.list (ns.map .int)) (.bool (decide (k ∈ ns))) := opd_flat (fun _ => .bl _) fun H G v u s b1 b2 Q q => in_raw s b1 (.inl b2) q
theorem o_inT {k : Int} {ns : List Int} : OpD (rIn K false) (.int k) (.tuple (ns.map .int)) (.bool (decide (k ∈ ns))) := opd_flat (fun _ => .bl _) fun H G v u s b1 b2 Q q => in_raw s b1 (.inr b2) q
theorem o_niL {k : Int} {ns : List Int} : OpD (rIn K true) (.int k) (.list (ns.map .int)) (.bool (!decide (k ∈ ns))) := opd_flat (fun _ => .bl _) fun H G v u s b1 b2 Q q => in_raw s b1 (.inl b2) q
theorem o_niT {k : Int} {ns : List Int} : OpD (rIn K true) (.int k) (.tuple (ns.map .int)) (.bool (!decide (k ∈ ns))) := opd_flat (fun _ => .bl _) fun H G v u s b1 b2 Q q => in_raw s b1 (.inr b2) q
/-- an item -/
theorem o_ixT {i : Nat} (h : xs[i]? = some z) : OpD (rIx K) (.tuple xs) (.int (i : Int)) z := fun H G v u s b1 b2 Q q => by
  obtain ⟨a, hu, vs, rfl, h1, h3, r⟩ := b1.tupV s
  obtain ⟨v, h2, r2⟩ := r.get h
  exact .inr (.inl ⟨a, vs, _, v, rfl, b2.intV, sqt_seal h1 h3, atI_nat h2, q v H G (Px.refl s) r2⟩)
theorem o_ixL {i : Nat} (h : xs[i]? = some z) : OpD (rIx K) (.list xs) (.int (i : Int)) z := fun H G v u s b1 b2 Q q => by
  obtain ⟨a, vs, rfl, h1, r⟩ := b1.lstV s
  obtain ⟨v, h2, r2⟩ := r.get h
  exact .inl ⟨a, vs, _, v, rfl, b2.intV, SqL.of h1, atI_nat h2, q v H G (Px.refl s) r2⟩
/-- + of lists (a new one), of tuples; * of a list -/
theorem o_cat (hl : xs.length + ys.length ≤ 100000) : OpF rCat (.list xs) (.list ys) (mlist (xs ++ ys)) := fun H G v u s b1 b2 Q q => by
  obtain ⟨a, vs, rfl, h1, r1⟩ := b1.lstV s
  obtain ⟨b, us, rfl, h2, r2⟩ := b2.lstV s
  exact ⟨a, b, vs, us, rfl, rfl, h1, h2, by rw [r1.len, r2.len]; exact Nat.le_trans hl (by decide), fun p hp => q p _ _ G (Px.new s hp) hp upd_same (s.free hp) ⟨_, rfl, r1.app r2⟩⟩
end
end Lw
set_option Elab.async false
set_option linter.all false
set_option maxRecDepth 100000
namespace Lw
open PySem PySem.Spec PyProof.Rows L2
section
variable {K : PySem.W.Frag} {ρ : Rho} {te ta tb tc : TE} {tt tu : TT} {ts tr : TA} {d x y z : D} {xs ys ds : List D} {P : D → Prop} {w : Own}
theorem o_catT (hl : xs.length + ys.length ≤ 100000) : OpD (rCatN K) (.tuple xs) (.tuple ys) (.tuple (xs ++ ys)) := fun H G v u s b1 b2 Q q => by
  rcases b1 with b1 | ⟨_, _, _, _, e, _⟩
  · rcases b2 with b2 | ⟨_, _, _, _, e, _⟩
    · obtain ⟨a, u1, vs, rfl, h1, s1, r1⟩ := b1.tupV
      obtain ⟨b, u2, us, rfl, h2, s2, r2⟩ := b2.tupV
      refine ⟨a, b, vs, us, rfl, rfl, sqt_seal (s _ _ h1) s1, sqt_seal (s _ _ h2) s2, by rw [r1.len, r2.len]; exact Nat.le_trans hl (by decide), fun e => ?_, fun e1 e2 => ?_, fun _ _ p w hp hw => ?_⟩
      · subst e
        cases r1
        exact q _ H G (Px.refl s) (.tup h2 s2 r2)
      · subst e2
        cases r2
        rw [List.append_nil] at q
        exact q _ H G (Px.refl s) (.tup h1 s1 r1)
      · exact q _ _ _ (Px.new2 s hp) (.tup upd_same hw ((r1.app r2).mono (same_new (s.free hp))))
    · cases e
  · cases e
theorem flatten_one {α : Type} (a : α) : ∀ n : Nat, (List.replicate n [a]).flatten = List.replicate n a
  | 0 => rfl
  | n + 1 => by rw [List.replicate_succ, List.flatten_cons, flatten_one a n, List.replicate_succ]; rfl
theorem o_rep {n : Nat} (hl : n ≤ 100000) : OpF rRep (.list [x]) (.int (n : Int)) (mlist (List.replicate n x)) := fun H G v u s b1 b2 Q q => by
  obtain ⟨a, vs, rfl, h1, r1⟩ := b1.lstV s
  cases r1 with
  | @cons v0 _ _ _ hv rr =>
    cases rr
    exact ⟨a, n, [v0], rfl, b2.intV, h1, by omega, by omega, by show 1 * n ≤ sizeLine; rw [Nat.one_mul]; exact Nat.le_trans hl (by decide), fun p hp => q p _ _ G (Px.new s hp) hp upd_same (s.free hp) ⟨_, rfl, by rw [Int.toNat_natCast, flatten_one]; exact RpL.rep hv n⟩⟩
/-- t[lo:hi] of a tuple -/
theorem RpL.cut {G : Hp} {vs : List V} {ds : List D} (lo hi : Option Int) (r : RpL G vs ds) : RpL G (cutV vs lo hi) ((ds.drop (HT.sIx ds.length 0 lo)).take (HT.sIx ds.length ds.length hi - HT.sIx ds.length 0 lo)) := by
  unfold cutV
  rw [r.len]
  exact (r.drop _).take _

/-! ### tests -/
theorem t_test {b : Bool} (h : EvE te ρ (.bool b)) : EvT (tTest te) ρ b := fun σ H G k Q q => h σ H G k _ fun v H1 G1 x1 r1 => ⟨b, r1.blV, q H1 G1 x1⟩
theorem t_B {b : Bool} (h : EvE te ρ (.bool b)) : EvT (tB te) ρ b := fun σ H G k Q q => h σ H G k _ fun v H1 G1 x1 r1 => ⟨b, r1.blV, q H1 G1 x1⟩
theorem t_and {a b : Bool} (h1 : EvT tt ρ a) (h2 : a = true → EvT tu ρ b) : EvT (tAnd tt tu) ρ (a && b) := fun σ H G k Q q => h1 σ H G k _ fun H1 G1 x1 => by
  cases a with
  | true => exact h2 rfl σ H1 G1 (k.px x1) Q fun H2 G2 x2 => q H2 G2 (x1.trans x2)
  | false => exact q H1 G1 x1
theorem t_or {a b : Bool} (h1 : EvT tt ρ a) (h2 : a = false → EvT tu ρ b) : EvT (tOr tt tu) ρ (a || b) := fun σ H G k Q q => h1 σ H G k _ fun H1 G1 x1 => by
  cases a with
  | true => exact q H1 G1 x1
  | false => exact h2 rfl σ H1 G1 (k.px x1) Q fun H2 G2 x2 => q H2 G2 (x1.trans x2)
theorem t_not {a : Bool} (h1 : EvT tt ρ a) : EvT (tNot tt) ρ (!a) := fun σ H G k Q q => h1 σ H G k _ fun H1 G1 x1 => q H1 G1 x1
theorem t_yes : EvT tYes ρ true := fun σ H G k Q q => q H G (Px.refl k.sub)
theorem e_and {a : Bool} (h1 : EvE ta ρ (.bool a)) (h2 : a = true → EvE tb ρ z) (h3 : a = false → z = .bool false) : EvE (tAndV ta tb) ρ z := fun σ H G k Q q => h1 σ H G k _ fun v H1 G1 x1 r1 => ⟨a, r1.blV, by
  cases a with
  | true => exact h2 rfl σ H1 G1 (k.px x1) Q fun v H2 G2 x2 => q v H2 G2 (x1.trans x2)
  | false =>
    rw [h3 rfl] at q
    exact q _ H1 G1 x1 (.bl false)⟩
theorem e_or {a : Bool} (h1 : EvE ta ρ (.bool a)) (h2 : a = false → EvE tb ρ z) (h3 : a = true → z = .bool true) : EvE (tOrV ta tb) ρ z := fun σ H G k Q q => h1 σ H G k _ fun v H1 G1 x1 r1 => ⟨a, r1.blV, by
  cases a with
  | false => exact h2 rfl σ H1 G1 (k.px x1) Q fun v H2 G2 x2 => q v H2 G2 (x1.trans x2)
  | true =>
    rw [h3 rfl] at q
    exact q _ H1 G1 x1 (.bl true)⟩
/-- a and b, both truth values -/
theorem e_and2 {a b : Bool} (h1 : EvE ta ρ (.bool a)) (h2 : a = true → EvE tb ρ (.bool b)) : EvE (tAndV ta tb) ρ (.bool (a && b)) :=
  e_and h1 (fun e => by subst e; exact h2 rfl) fun e => by subst e; rfl
theorem e_or2 {a b : Bool} (h1 : EvE ta ρ (.bool a)) (h2 : a = false → EvE tb ρ (.bool b)) : EvE (tOrV ta tb) ρ (.bool (a || b)) :=
  e_or h1 (fun e => by subst e; exact h2 rfl) fun e => by subst e; rfl
theorem e_not {a : Bool} (h1 : EvE ta ρ (.bool a)) : EvE (tNotV ta) ρ (.bool (!a)) := fun σ H G k Q q => h1 σ H G k _ fun v H1 G1 x1 r1 => ⟨a, r1.blV, q _ H1 G1 x1 (.bl _)⟩
theorem e_if {b : Bool} (h : EvT tt ρ b) (h1 : b = true → EvE ta ρ z) (h2 : b = false → EvE tb ρ z) : EvE (tIf tt ta tb) ρ z := fun σ H G k Q q => h σ H G k _ fun H1 G1 x1 => by
  cases b with
  | true => exact h1 rfl σ H1 G1 (k.px x1) Q fun v H2 G2 x2 => q v H2 G2 (x1.trans x2)
  | false => exact h2 rfl σ H1 G1 (k.px x1) Q fun v H2 G2 x2 => q v H2 G2 (x1.trans x2)
/-- a <= b <= c, whole numbers -/
theorem e_chain {r r' : R2} {a b : Bool} (h1 : EvB ta ρ x) (h2 : EvB tb ρ y) (h3 : EvB tc ρ z) (o1 : OpD r x y (.bool a)) (o2 : a = true → OpD r' y z (.bool b)) : EvE (tChain r r' ta tb tc) ρ (.bool (a && b)) := fun σ H G k Q q =>
  h1 σ H G k _ fun v H1 G1 x1 r1 => h2 σ H1 G1 (k.px x1) _ fun u H2 G2 x2 r2 => o1 H2 G2 v u x2.s (r1.px x2) r2 _ fun c H3 G3 x3 r3 => ⟨a, r3.blV, by
    cases a with
    | true =>
      rw [if_pos rfl]
      exact h3 σ H3 G3 (k.px ((x1.trans x2).trans x3)) _ fun c' H4 G4 x4 r4 => o2 rfl H4 G4 u c' x4.s ((r2.px x3).px x4) r4 _ fun c2 H5 G5 x5 r5 => q c2 H5 G5 ((((x1.trans x2).trans x3).trans x4).trans x5) r5
    | false =>
      rw [if_neg Bool.false_ne_true]
      exact q _ H3 G3 ((x1.trans x2).trans x3) (.bl false)⟩

/-! ### calls of built-ins by values -/
def CbD (r : List V → Hp → VK → Prop) (xs : List D) (z : D) : Prop := ∀ H G vs, Same G H → BqL H G vs xs → ∀ Q : VK, (∀ w H' G', Px H G H' G' → Rp G' w z → Q w H') → r vs H Q
def CbF (r : List V → Hp → VK → Prop) (xs : List D) (w : Own) : Prop := ∀ H G vs, Same G H → BqL H G vs xs → ∀ Q : VK, (∀ a o H' G', Px H G H' G' → H a = Option.none → H' a = some o → G' a = Option.none → w.P G' a o → Q (.ref a) H') → r vs H Q
theorem e_cb {r : List V → Hp → VK → Prop} (ha : EvA ts ρ xs) (hc : CbD r xs z) : EvE (tCB r ts) ρ z := fun σ H G k Q q =>
  ha σ H G k _ fun vs H1 G1 x1 r1 => hc H1 G1 vs x1.s r1 Q fun w H2 G2 x2 r2 => q w H2 G2 (x1.trans x2) r2
theorem f_cb {r : List V → Hp → VK → Prop} (ha : EvA ts ρ xs) (hc : CbF r xs w) : EvF (tCB r ts) ρ w := fun σ H G k Q q =>
  ha σ H G k _ fun vs H1 G1 x1 r1 => hc H1 G1 vs x1.s r1 Q fun a o H2 G2 x2 n2 h2 g2 w2 => q a o H2 G2 (x1.trans x2) (x1.h.free n2) h2 g2 w2
theorem cbd_flat {r : List V → Hp → VK → Prop} {u : V} (hz : ∀ G, Rp G u z) (h : ∀ H G vs, Same G H → BqL H G vs xs → ∀ Q : VK, Q u H → r vs H Q) : CbD r xs z := fun H G vs s b Q q => h H G vs s b Q (q u H G (Px.refl s) (hz G))
def seqD (ds : List D) (x : D) : Prop := x = .list ds ∨ x = .tuple ds
theorem Bq.seq {H G : Hp} {v : V} (s : Same G H) (h : Bq H G v x) (e : seqD ds x) : ∃ a xs, v = .ref a ∧ (SqL K H a xs ∨ SqT K H a xs) ∧ RpL G xs ds := by
  rcases e with e | e
  · subst e
    obtain ⟨a, xs, e, h1, r⟩ := h.lstV s
    exact ⟨a, xs, e, .inl (SqL.of h1), r⟩
  · subst e
    obtain ⟨a, u, xs, e, h1, h2, r⟩ := h.tupV s
    exact ⟨a, xs, e, .inr (sqt_seal h1 h2), r⟩
def rLenQ (K : PySem.W.Frag) : List V → Hp → VK → Prop := fun xs H Q => ∃ p ys, xs = [.ref p] ∧ (SqL K H p ys ∨ SqT K H p ys) ∧ Q (.int ys.length) H
theorem c_len (e : seqD ds x) : CbD (rLenQ K) [x] (.int (ds.length : Int)) := cbd_flat (u := .int ds.length) (fun _ => .int _) fun H G vs s b Q q => by
  obtain ⟨v, rfl, b1⟩ := b.one
  obtain ⟨a, xs, rfl, h, r⟩ := b1.seq (K := K) s e
  exact ⟨a, xs, rfl, h, by rw [r.len]; exact q⟩
theorem c_lenT : CbD (rLenQ K) [.tuple ds] (.int (ds.length : Int)) := c_len (.inr rfl)
theorem c_lenL : CbD (rLenQ K) [.list ds] (.int (ds.length : Int)) := c_len (.inl rfl)
def rListQ (K : PySem.W.Frag) : List V → Hp → VK → Prop := fun xs H Q => ∃ p ys, xs = [.ref p] ∧ (SqL K H p ys ∨ SqT K H p ys) ∧ ∀ l, H l = none → Q (.ref l) (upd H l (.lst ys))
theorem c_list (e : seqD ds x) : CbF (rListQ K) [x] (mlist ds) := fun H G vs s b Q q => by
  obtain ⟨v, rfl, b1⟩ := b.one
  obtain ⟨a, xs, rfl, h, r⟩ := b1.seq (K := K) s e
  exact ⟨a, xs, rfl, h, fun l hl => q l _ _ G (Px.new s hl) hl upd_same (s.free hl) ⟨xs, rfl, r⟩⟩
theorem c_tupL : CbD (rTupN K) [.list ds] (.tuple ds) := fun H G vs s b Q q => by
  obtain ⟨v, rfl, b1⟩ := b.one
  obtain ⟨a, xs, rfl, h, r⟩ := b1.lstV s
  exact ⟨a, xs, rfl, SqL.of h, fun l u hl hu => q _ _ _ (Px.new2 s hl) (.tup upd_same hu (r.mono (same_new (s.free hl))))⟩
def rAllQ (K : PySem.W.Frag) : List V → Hp → VK → Prop := rAll K
theorem c_all {bs : List Bool} : CbD (rAll K) [.list (bs.map .bool)] (.bool (bs.all id)) := cbd_flat (fun _ => .bl _) fun H G vs s b Q q => by
  obtain ⟨v, rfl, b1⟩ := b.one
  obtain ⟨a, xs, rfl, h, r⟩ := b1.lstV s
  have e := r.bls
  subst e
  exact ⟨a, bs, rfl, SqL.of h, q⟩
theorem c_any {bs : List Bool} : CbD (rAny K) [.list (bs.map .bool)] (.bool (bs.any id)) := cbd_flat (fun _ => .bl _) fun H G vs s b Q q => by
  obtain ⟨v, rfl, b1⟩ := b.one
  obtain ⟨a, xs, rfl, h, r⟩ := b1.lstV s
  have e := r.bls
  subst e
  exact ⟨a, bs, rfl, SqL.of h, q⟩
def rAbs : List V → Hp → VK → Prop := fun xs H Q => ∃ i, xs = [.int i] ∧ Q (.int (if i < 0 then -i else i)) H
theorem c_abs {i : Int} : CbD rAbs [.int i] (.int (if i < 0 then -i else i)) := cbd_flat (fun _ => .int _) fun H G vs s b Q q => by
  obtain ⟨v, rfl, b1⟩ := b.one
  exact ⟨i, by rw [b1.intV], q⟩
def rInt : List V → Hp → VK → Prop := fun xs H Q => (∃ i, xs = [.int i] ∧ Q (.int i) H) ∨ ∃ k, xs = [.bl k] ∧ Q (.int (if k then 1 else 0)) H
theorem c_intI {i : Int} : CbD rInt [.int i] (.int i) := cbd_flat (fun _ => .int _) fun H G vs s b Q q => by
  obtain ⟨v, rfl, b1⟩ := b.one
  exact .inl ⟨i, by rw [b1.intV], q⟩
theorem c_intB {k : Bool} : CbD rInt [.bool k] (.int (if k then 1 else 0)) := cbd_flat (fun _ => .int _) fun H G vs s b Q q => by
  obtain ⟨v, rfl, b1⟩ := b.one
  exact .inr ⟨k, by rw [b1.blV], q⟩
def rMax2 : List V → Hp → VK → Prop := fun xs H Q => ∃ i j, xs = [.int i, .int j] ∧ Q (.int (if j > i then j else i)) H
def rMin2 : List V → Hp → VK → Prop := fun xs H Q => ∃ i j, xs = [.int i, .int j] ∧ Q (.int (if j < i then j else i)) H
theorem c_max2 {i j : Int} : CbD rMax2 [.int i, .int j] (.int (if j > i then j else i)) := cbd_flat (fun _ => .int _) fun H G vs s b Q q => by
  obtain ⟨v, w, rfl, b1, b2⟩ := b.two
  exact ⟨i, j, by rw [b1.intV, b2.intV], q⟩
theorem c_min2 {i j : Int} : CbD rMin2 [.int i, .int j] (.int (if j < i then j else i)) := cbd_flat (fun _ => .int _) fun H G vs s b Q q => by
  obtain ⟨v, w, rfl, b1, b2⟩ := b.two
  exact ⟨i, j, by rw [b1.intV, b2.intV], q⟩
/-- isinstance -/
def tyD : D → String
  | .none => "NoneType"
  | .bool _ => "bool"
  | .int _ => "int"
  | .str _ => "str"
  | .list _ => "list"
  | .tuple _ => "tuple"
  | .dict _ => "dict"
def notP : D → Bool
  | .dict _ => false
  | _ => true
theorem Bq.ty {H G : Hp} {v : V} (s : Same G H) (h : Bq H G v x) (hd : notP x = true) : TyX K H v (.type (tyD x)) := by
  have h1 := h.rp s
  cases h1 with
  | non => exact .base .non
  | bl b => exact .base (.bl b)
  | int i => exact .base (.int i)
  | str z => exact .base (.str z)
  | lst h2 r => exact .base (.lst h2)
  | tup h2 hs r =>
    obtain ⟨o, _, e⟩ := hs
    rw [e] at h2
    exact .fTuple h2
  | pr h2 rx ry => cases hd
/-- isinstance(x, T): a call whose second argument is a written type -/
theorem e_isi {T : String} {b : Bool} (ha : EvB ta ρ x) (hk : kitB (tyD x) T = some b) (hd : notP x = true := by rfl) : EvE (tCB (rIsi K) (tCons ta (tCons (tC (.ty T)) tNil))) ρ (.bool b) := fun σ H G k Q q =>
  ha σ H G k _ fun v H1 G1 x1 r1 => ⟨v, .ty T, .type (tyD x), .type T, b, rfl, .ty T, r1.ty x1.s hd, kit_ty hk, q _ H1 G1 x1 (.bl b)⟩
def kitB2 (a b c : String) : Option Bool := match kitB a b with
  | some true => some true
  | some false => kitB a c
  | none => none
theorem e_isi2 {T S : String} {b : Bool} (ha : EvB ta ρ x) (hk : kitB2 (tyD x) T S = some b) (hd : notP x = true := by rfl) : EvE (tCB (rIsiT K) (tCons ta (tCons (tTup (tCons (tC (.ty T)) (tCons (tC (.ty S)) tNil))) tNil))) ρ (.bool b) := fun σ H G k Q q =>
  ha σ H G k _ fun v H1 G1 x1 r1 => ⟨by show 2 ≤ sizeLine; decide, fun p hp => ⟨v, p, [.ty T, .ty S], .type (tyD x), [.type T, .type S], b, rfl, upd_same, .cons (.ty T) (.cons (.ty S) .nil), (r1.px (Px.new x1.s hp)).ty (x1.s.trans (same_new hp)) hd, by
    unfold kitB2 at hk
    cases h : kitB (tyD x) T with
    | none =>
      rw [h] at hk
      cases hk
    | some c =>
      rw [h] at hk
      cases c with
      | true =>
        have := Option.some.inj hk
        exact kitAny_cons (kit_ty h) (fun e => by cases e) (fun _ => this.symm)
      | false =>
        exact kitAny_cons (kit_ty h) (fun _ => kitAny_cons (kit_ty hk) (fun e => by rw [kitAny_nil, e]) (fun e => e)) (fun e => by cases e), q _ _ G1 (x1.trans (Px.new x1.s hp)) (.bl b)⟩⟩
end
end Lw
set_option Elab.async false
set_option linter.all false
set_option maxRecDepth 100000
namespace Lw
open PySem PySem.Spec PyProof.Rows L2
/-! ### what may have changed -/
def mutAt (σ : L2.St) (ρ : Rho) (a : Addr) : Prop := ∃ (i : Nat) (w : Own), ρ[i]? = some (some (.o w)) ∧ σ[i]? = some (some (.ref a))
structure Te (σ : L2.St) (ρ : Rho) (H G : Hp) (ρ' : Rho) (H' G' : Hp) : Prop where
  keep : ∀ a o, H a = some o → ¬ mutAt σ ρ a → H' a = some o
  there : ∀ a, H' a = Option.none → H a = Option.none
  up : Same G G'
  new : ∀ a, G a = Option.none → G' a ≠ Option.none → H a = Option.none ∨ mutAt σ ρ a ∨ ∃ u, G' a = some u ∧ isT u
  own : ∀ (i : Nat) (w : Own), ρ'[i]? = some (some (.o w)) → ∃ w', ρ[i]? = some (some (.o w'))
structure Tr (σ : L2.St) (ρ : Rho) (H G : Hp) (σ' : L2.St) (ρ' : Rho) (H' G' : Hp) : Prop where
  keep : ∀ a o, H a = some o → ¬ mutAt σ ρ a → H' a = some o
  there : ∀ a, H' a = Option.none → H a = Option.none
  up : Same G G'
  new : ∀ a, G a = Option.none → G' a ≠ Option.none → H a = Option.none ∨ mutAt σ ρ a ∨ ∃ u, G' a = some u ∧ isT u
  mt : ∀ a, mutAt σ' ρ' a → mutAt σ ρ a ∨ H a = Option.none
section
variable {σ σ1 σ2 : L2.St} {ρ ρ1 ρ2 : Rho} {H G H1 G1 H2 G2 : Hp}
theorem Te.of (x : Px H G H1 G1) : Te σ ρ H G ρ H1 G1 := ⟨fun a o e _ => x.h a o e, fun a e => x.h.free e, x.g, fun a e q => (x.n a e q).imp id .inr, fun i w e => ⟨w, e⟩⟩
theorem Te.mutAt (t : Te σ ρ H G ρ1 H1 G1) {a : Addr} (m : mutAt σ ρ1 a) : mutAt σ ρ a := by
  obtain ⟨i, w, h1, h2⟩ := m
  obtain ⟨w', h3⟩ := t.own i w h1
  exact ⟨i, w', h3, h2⟩
theorem Te.tr (t : Te σ ρ H G ρ1 H1 G1) : Tr σ ρ H G σ ρ1 H1 G1 := ⟨t.keep, t.there, t.up, t.new, fun a m => .inl (t.mutAt m)⟩
theorem Te.trans (t : Te σ ρ H G ρ1 H1 G1) (u : Te σ ρ1 H1 G1 ρ2 H2 G2) : Te σ ρ H G ρ2 H2 G2 :=
  ⟨fun a o e n => u.keep a o (t.keep a o e n) fun m => n (t.mutAt m), fun a e => t.there a (u.there a e), t.up.trans u.up, fun a e q => by
    by_cases h : G1 a = Option.none
    · rcases u.new a h q with z | z | z
      · exact .inl (t.there a z)
      · exact .inr (.inl (t.mutAt z))
      · exact .inr (.inr z)
    · exact (t.new a e h).imp id (.imp id fun ⟨y, z, q⟩ => ⟨y, u.up _ _ z, q⟩), fun i w e => let ⟨w', e'⟩ := u.own i w e; t.own i w' e'⟩
theorem Tr.trans (t : Tr σ ρ H G σ1 ρ1 H1 G1) (u : Tr σ1 ρ1 H1 G1 σ2 ρ2 H2 G2) : Tr σ ρ H G σ2 ρ2 H2 G2 :=
  ⟨fun a o e n => u.keep a o (t.keep a o e n) fun m => (t.mt a m).elim n (fun z => by rw [z] at e; cases e), fun a e => t.there a (u.there a e), t.up.trans u.up, fun a e q => by
    by_cases h : G1 a = Option.none
    · rcases u.new a h q with z | z | z
      · exact .inl (t.there a z)
      · exact (t.mt a z).symm.imp id .inl
      · exact .inr (.inr z)
    · exact (t.new a e h).imp id (.imp id fun ⟨y, z, q⟩ => ⟨y, u.up _ _ z, q⟩), fun a m => (u.mt a m).elim (t.mt a) fun z => .inr (t.there a z)⟩
theorem Tr.refl : Tr σ ρ H G σ ρ H G := ⟨fun _ _ e _ => e, fun _ e => e, Same.refl G, fun _ e q => absurd e q, fun _ m => .inl m⟩
theorem Ok.mutH (k : Ok σ H G ρ) {a : Addr} (m : mutAt σ ρ a) : (∃ o, H a = some o) ∧ G a = Option.none := by
  obtain ⟨i, w, h1, h2⟩ := m
  obtain ⟨b, o, e1, e2, e3, _⟩ := k.o h1
  rw [h2] at e1
  have := V.ref.inj (Option.some.inj (Option.some.inj e1))
  subst this
  exact ⟨⟨o, e2⟩, e3⟩
theorem Ok.notMut (k : Ok σ H G ρ) {a : Addr} (e : H a = Option.none) : ¬ mutAt σ ρ a := fun m => by
  obtain ⟨⟨o, h⟩, _⟩ := k.mutH m
  rw [e] at h
  cases h
/-- a stable object stays -/
theorem Tr.stab (t : Tr σ ρ H G σ1 ρ1 H1 G1) (s : Same G1 H1) {a : Addr} {o : HO} (e : G a = some o) : H1 a = some o := s _ _ (t.up _ _ e)
end

/-! ### expressions that may draw -/
def EvZ (te : TE) (ρ : Rho) (P : Rho → D → Prop) : Prop := ∀ σ H G, Ok σ H G ρ → ∀ Q : VK, (∀ v d ρ' H' G', Te σ ρ H G ρ' H' G' → Ok σ H' G' ρ' → Rp G' v d → P ρ' d → Q v H') → te σ H Q
def EvTZ (tt : TT) (ρ : Rho) (P : Rho → Bool → Prop) : Prop := ∀ σ H G, Ok σ H G ρ → ∀ Q : Bool → Hp → Prop, (∀ b ρ' H' G', Te σ ρ H G ρ' H' G' → Ok σ H' G' ρ' → P ρ' b → Q b H') → tt σ H Q
inductive KR (H H' G' : Hp) : List V → List Sl → Prop
  | nil : KR H H' G' [] []
  | d {v : V} {x : D} {vs : List V} {ks : List Sl} (h : Rp G' v x) (r : KR H H' G' vs ks) : KR H H' G' (v :: vs) (.d x :: ks)
  | o {a : Addr} {o : HO} {w : Own} {vs : List V} {ks : List Sl} (n : H a = Option.none) (h : H' a = some o) (g : G' a = Option.none) (p : w.P G' a o) (ne : V.ref a ∉ vs) (r : KR H H' G' vs ks) : KR H H' G' (.ref a :: vs) (.o w :: ks)
def EvK (ta : TA) (ρ : Rho) (P : Rho → List Sl → Prop) : Prop := ∀ σ H G, Ok σ H G ρ → ∀ Q : List V → Hp → Prop, (∀ vs ks ρ' H' G', Te σ ρ H G ρ' H' G' → Ok σ H' G' ρ' → KR H H' G' vs ks → P ρ' ks → Q vs H') → ta σ H Q
section
variable {K : PySem.W.Frag} {ρ : Rho} {te ta tb tc : TE} {tt tu : TT} {ts tr : TA} {d x y z : D} {xs ys ds : List D} {w : Own}
theorem z_of {P : Rho → D → Prop} (h : EvP te ρ (P ρ)) : EvZ te ρ P := fun σ H G k Q q => h σ H G k Q fun v d H' G' x r p => q v d ρ H' G' (Te.of x) (k.px x) r p
theorem z_e {P : Rho → D → Prop} (h : EvE te ρ x) (p : P ρ x) : EvZ te ρ P := z_of (h.p p)
theorem tz_of {P : Rho → Bool → Prop} {b : Bool} (h : EvT tt ρ b) (p : P ρ b) : EvTZ tt ρ P := fun σ H G k Q q => h σ H G k Q fun H' G' x => q b ρ H' G' (Te.of x) (k.px x) p
theorem EvZ.imp {P P' : Rho → D → Prop} (h : EvZ te ρ P) (i : ∀ ρ' d, P ρ' d → P' ρ' d) : EvZ te ρ P' := fun σ H G k Q q => h σ H G k Q fun v d ρ' H' G' t k' r p => q v d ρ' H' G' t k' r (i _ _ p)
/-- an effect first, then a pure operand -/
theorem z_op {r : R2} {P : Rho → D → Prop} (ha : EvZ ta ρ fun ρ1 x => EvZ tb ρ1 fun ρ2 y => ∃ z, OpD r x y z ∧ P ρ2 z) : EvZ (tOp r ta tb) ρ P := fun σ H G k Q q =>
  ha σ H G k _ fun v x ρ1 H1 G1 t1 k1 r1 p1 => p1 σ H1 G1 k1 _ fun u y ρ2 H2 G2 t2 k2 r2 ⟨z, o, p2⟩ => o H2 G2 v u k2.sub (.inl (r1.mono t2.up)) (.inl r2) Q fun w' H3 G3 x3 r3 => q w' z ρ2 H3 G3 ((t1.trans t2).trans (Te.of x3)) (k2.px x3) r3 p2
theorem z_cb1 {r : List V → Hp → VK → Prop} {P : Rho → D → Prop} (ha : EvZ te ρ fun ρ1 x => ∃ z, CbD r [x] z ∧ P ρ1 z) : EvZ (tCB r (tCons te tNil)) ρ P := fun σ H G k Q q =>
  ha σ H G k _ fun v x ρ1 H1 G1 t1 k1 r1 ⟨z, c, p⟩ => c H1 G1 [v] k1.sub (.cons (.inl r1) .nil) Q fun w' H2 G2 x2 r2 => q w' z ρ1 H2 G2 (t1.trans (Te.of x2)) (k1.px x2) r2 p
theorem tz_test {P : Rho → Bool → Prop} (h : EvZ te ρ fun ρ' d => ∃ b, d = .bool b ∧ P ρ' b) : EvTZ (tTest te) ρ P := fun σ H G k Q q => h σ H G k _ fun v d ρ1 H1 G1 t1 k1 r1 ⟨b, e, p⟩ => ⟨b, by subst e; exact r1.blV, q b ρ1 H1 G1 t1 k1 p⟩
theorem KR.goes {H H1 G1 H2 G2 : Hp} {σ : L2.St} {ρ1 ρ2 : Rho} (s2 : Same G2 H2) (t : Te σ ρ1 H1 G1 ρ2 H2 G2) (nm : ∀ a, H a = Option.none → ¬ mutAt σ ρ1 a) : ∀ {vs : List V} {ks : List Sl}, KR H H1 G1 vs ks → KR H H2 G2 vs ks
  | _, _, .nil => .nil
  | _, _, .d h r => .d (h.mono t.up) (r.goes s2 t nm)
  | _, _, .o (a := a) (w := w) n h g p ne r => .o n (t.keep _ _ h (nm a n)) (by
      cases e : G2 a with
      | none => rfl
      | some u =>
        rcases t.new a g (by rw [e]; exact fun z => nomatch z) with z | z | ⟨y, z, tt⟩
        · rw [z] at h; cases h
        · exact absurd z (nm a n)
        · have e1 := s2 _ _ z
          rw [t.keep _ _ h (nm a n)] at e1
          rw [Option.some.inj e1] at p
          exact absurd tt (w.nt p)) (w.mono t.up p) ne (r.goes s2 t nm)
theorem KR.notin {H H' G' : Hp} {a : Addr} (h : H a ≠ Option.none) (hg : G' a = Option.none) : ∀ {vs : List V} {ks : List Sl}, KR H H' G' vs ks → V.ref a ∉ vs
  | _, _, .nil, m => by simp at m
  | _, _, .d q r, m => by
    rcases List.mem_cons.mp m with e | m
    · subst e
      cases q with
      | lst z _ => rw [hg] at z; cases z
      | tup z _ _ => rw [hg] at z; cases z
      | pr z _ _ => rw [hg] at z; cases z
    · exact r.notin h hg m
  | _, _, .o n _ _ _ _ r, m => by
    rcases List.mem_cons.mp m with e | m
    · have := V.ref.inj e
      subst this
      exact h n
    · exact r.notin h hg m
theorem k_nil {P : Rho → List Sl → Prop} (p : P ρ []) : EvK tNil ρ P := fun σ H G k Q q => q [] [] ρ H G (Te.of (Px.refl k.sub)) k .nil p
theorem k_z {P : Rho → List Sl → Prop} (h : EvZ te ρ fun ρ1 x => EvK ts ρ1 fun ρ2 ks => P ρ2 (.d x :: ks)) : EvK (tCons te ts) ρ P := fun σ H G k Q q =>
  h σ H G k _ fun v x ρ1 H1 G1 t1 k1 r1 p1 => p1 σ H1 G1 k1 _ fun vs ks ρ2 H2 G2 t2 k2 kr p2 => q _ _ ρ2 H2 G2 (t1.trans t2) k2 (.d (r1.mono t2.up) (by
    have : ∀ {vs : List V} {ks : List Sl}, KR H1 H2 G2 vs ks → KR H H2 G2 vs ks := by
      intro vs ks kr
      induction kr with
      | nil => exact .nil
      | d h r ih => exact .d h ih
      | o n h g p ne r ih => exact .o (t1.there _ n) h g p ne ih
    exact this kr)) p2
theorem k_e {P : Rho → List Sl → Prop} (h : EvE te ρ x) (r : EvK ts ρ fun ρ2 ks => P ρ2 (.d x :: ks)) : EvK (tCons te ts) ρ P := k_z (z_e h r)
theorem k_f {P : Rho → List Sl → Prop} (h : EvF te ρ w) (hr : EvK ts ρ fun ρ2 ks => P ρ2 (.o w :: ks)) : EvK (tCons te ts) ρ P := fun σ H G k Q q =>
  h σ H G k _ fun a o H1 G1 x1 n1 h1 g1 w1 => hr σ H1 G1 (k.px x1) _ fun vs ks ρ2 H2 G2 t2 k2 kr p2 => by
    have nm : ¬ mutAt σ ρ a := k.notMut n1
    have g2 : G2 a = Option.none := by
      cases e : G2 a with
      | none => rfl
      | some u =>
        rcases t2.new a g1 (by rw [e]; exact fun z => nomatch z) with z | z | ⟨y, z, tt⟩
        · rw [z] at h1; cases h1
        · exact absurd z nm
        · have e1 := k2.sub _ _ z
          rw [t2.keep _ _ h1 nm] at e1
          rw [Option.some.inj e1] at w1
          exact absurd tt (w.nt w1)
    have up : ∀ {vs : List V} {ks : List Sl}, KR H1 H2 G2 vs ks → KR H H2 G2 vs ks := by
      intro vs ks kr
      induction kr with
      | nil => exact .nil
      | d h r ih => exact .d h ih
      | o n h g p ne r ih => exact .o (x1.h.free n) h g p ne ih
    exact q _ _ ρ2 H2 G2 ((Te.of x1).trans t2) k2 (.o n1 (t2.keep _ _ h1 nm) g2 (w.mono t2.up w1) (kr.notin (by rw [h1]; exact fun z => nomatch z) g2) (up kr)) p2
end

/-! ### statements -/
structure De where
  nx : Rho → Prop
  rt : Rho → D → Prop
  bk : Rho → Prop := fun _ => False
  ct : Rho → Prop := fun _ => False
def RunS (t : TS) (ρ : Rho) (P : De) : Prop := ∀ σ H G, Ok σ H G ρ → ∀ D : Ends,
  (∀ σ' ρ' H' G', Tr σ ρ H G σ' ρ' H' G' → Ok σ' H' G' ρ' → P.nx ρ' → D.nx σ' H') →
  (∀ v d σ' ρ' H' G', Tr σ ρ H G σ' ρ' H' G' → Ok σ' H' G' ρ' → Rp G' v d → P.rt ρ' d → D.rt v H') →
  (∀ σ' ρ' H' G', Tr σ ρ H G σ' ρ' H' G' → Ok σ' H' G' ρ' → P.bk ρ' → D.bk σ' H') →
  (∀ σ' ρ' H' G', Tr σ ρ H G σ' ρ' H' G' → Ok σ' H' G' ρ' → P.ct ρ' → D.ct σ' H') → t D σ H
section
variable {K : PySem.W.Frag} {ρ : Rho} {te ta tb tc : TE} {tt tu : TT} {ts tr : TA} {d x y z : D} {xs ys ds : List D} {w : Own} {t u : TS} {P : De}
/-- behind an expression's effect -/
theorem RunS.after {σ : L2.St} {H G H1 G1 : Hp} {ρ1 : Rho} {D : Ends} (h : RunS t ρ1 P) (e : Te σ ρ H G ρ1 H1 G1) (k : Ok σ H1 G1 ρ1)
    (q1 : ∀ σ' ρ' H' G', Tr σ ρ H G σ' ρ' H' G' → Ok σ' H' G' ρ' → P.nx ρ' → D.nx σ' H') (q2 : ∀ v d σ' ρ' H' G', Tr σ ρ H G σ' ρ' H' G' → Ok σ' H' G' ρ' → Rp G' v d → P.rt ρ' d → D.rt v H')
    (q3 : ∀ σ' ρ' H' G', Tr σ ρ H G σ' ρ' H' G' → Ok σ' H' G' ρ' → P.bk ρ' → D.bk σ' H') (q4 : ∀ σ' ρ' H' G', Tr σ ρ H G σ' ρ' H' G' → Ok σ' H' G' ρ' → P.ct ρ' → D.ct σ' H') : t D σ H1 :=
  h σ H1 G1 k D (fun σ' ρ' H' G' r => q1 σ' ρ' H' G' (e.tr.trans r)) (fun v d σ' ρ' H' G' r => q2 v d σ' ρ' H' G' (e.tr.trans r)) (fun σ' ρ' H' G' r => q3 σ' ρ' H' G' (e.tr.trans r)) fun σ' ρ' H' G' r => q4 σ' ρ' H' G' (e.tr.trans r)
theorem r_next (h : P.nx ρ) : RunS tNext ρ P := fun σ H G k D q1 q2 q3 q4 => q1 σ ρ H G Tr.refl k h
theorem r_break (h : P.bk ρ) : RunS tBreak ρ P := fun σ H G k D q1 q2 q3 q4 => q3 σ ρ H G Tr.refl k h
theorem r_cont (h : P.ct ρ) : RunS tCont ρ P := fun σ H G k D q1 q2 q3 q4 => q4 σ ρ H G Tr.refl k h
theorem r_seq (h : RunS t ρ { P with nx := fun ρ' => RunS u ρ' P }) : RunS (tSeq t u) ρ P := fun σ H G k D q1 q2 q3 q4 =>
  h σ H G k { D with nx := u D } (fun σ1 ρ1 H1 G1 t1 k1 h1 => h1 σ1 H1 G1 k1 D (fun σ' ρ' H' G' r => q1 σ' ρ' H' G' (t1.trans r)) (fun v d σ' ρ' H' G' r => q2 v d σ' ρ' H' G' (t1.trans r)) (fun σ' ρ' H' G' r => q3 σ' ρ' H' G' (t1.trans r)) fun σ' ρ' H' G' r => q4 σ' ρ' H' G' (t1.trans r)) q2 q3 q4
theorem r_ifZ (h : EvTZ tt ρ fun ρ' b => if b = true then RunS t ρ' P else RunS u ρ' P) : RunS (tIfS tt t u) ρ P := fun σ H G k D q1 q2 q3 q4 =>
  h σ H G k _ fun b ρ1 H1 G1 t1 k1 p => by
    cases b with
    | true => exact RunS.after (show RunS t ρ1 P from p) t1 k1 q1 q2 q3 q4
    | false => exact RunS.after (show RunS u ρ1 P from p) t1 k1 q1 q2 q3 q4
theorem r_if {b : Bool} (h : EvT tt ρ b) (h1 : b = true → RunS t ρ P) (h2 : b = false → RunS u ρ P) : RunS (tIfS tt t u) ρ P := r_ifZ (tz_of h (by
  cases b with
  | true => exact h1 rfl
  | false => exact h2 rfl))
theorem r_retZ (h : EvZ te ρ P.rt) : RunS (tRet te) ρ P := fun σ H G k D q1 q2 q3 q4 =>
  h σ H G k _ fun v d ρ1 H1 G1 t1 k1 r1 p => q2 v d σ ρ1 H1 G1 t1.tr k1 r1 p
theorem r_ret (h : EvE te ρ x) (p : P.rt ρ x) : RunS (tRet te) ρ P := r_retZ (z_e h p)
theorem r_retP (h : EvP te ρ (P.rt ρ)) : RunS (tRet te) ρ P := r_retZ (z_of h)
theorem r_retN (p : P.rt ρ .none) : RunS tRetN ρ P := fun σ H G k D q1 q2 q3 q4 => q2 .non .none σ ρ H G Tr.refl k .non p
/-- a value into a slot -/
theorem tr_setD {σ : L2.St} {H G : Hp} {i : Nat} {v : V} : Tr σ ρ H G (σ.set i (some v)) (ρ.set i (some (.d x))) H G := ⟨fun _ _ e _ => e, fun _ e => e, Same.refl G, fun _ e q => absurd e q, fun a m => by
  obtain ⟨j, w, h1, h2⟩ := m
  by_cases e : i = j
  · subst e
    by_cases hi : i < ρ.length
    · rw [List.getElem?_set_self hi] at h1
      cases h1
    · rw [List.getElem?_eq_none (by rw [List.length_set]; omega)] at h1
      cases h1
  · rw [List.getElem?_set_ne e] at h1 h2
    exact .inl ⟨j, w, h1, h2⟩⟩
theorem r_asgZ {i : Nat} (h : EvZ te ρ fun ρ' d => P.nx (ρ'.set i (some (.d d)))) : RunS (tAsg te (gName i)) ρ P := fun σ H G k D q1 q2 q3 q4 =>
  h σ H G k _ fun v d ρ1 H1 G1 t1 k1 r1 p => q1 _ _ H1 G1 (t1.tr.trans tr_setD) (k1.setD r1) p
theorem r_asg {i : Nat} (h : EvE te ρ x) (p : P.nx (ρ.set i (some (.d x)))) : RunS (tAsg te (gName i)) ρ P := r_asgZ (z_e h p)
theorem r_asgP {i : Nat} (h : EvP te ρ fun x => P.nx (ρ.set i (some (.d x)))) : RunS (tAsg te (gName i)) ρ P := r_asgZ (z_of (P := fun ρ' d => P.nx (ρ'.set i (some (.d d)))) h)
theorem tr_setO {σ : L2.St} {H G : Hp} {i : Nat} {a : Addr} {H0 : Hp} (n : H0 a = Option.none) (t : Tr σ ρ H0 G σ ρ H G) : Tr σ ρ H0 G (σ.set i (some (.ref a))) (ρ.set i (some (.o w))) H G := ⟨t.keep, t.there, t.up, t.new, fun b m => by
  obtain ⟨j, w', h1, h2⟩ := m
  by_cases e : i = j
  · subst e
    by_cases hi : i < σ.length
    · rw [List.getElem?_set_self hi] at h2
      have := V.ref.inj (Option.some.inj (Option.some.inj h2))
      subst this
      exact .inr n
    · rw [List.getElem?_eq_none (by rw [List.length_set]; omega)] at h2
      cases h2
  · rw [List.getElem?_set_ne e] at h1 h2
    exact .inl ⟨j, w', h1, h2⟩⟩
/-- any slot -/
theorem set_any {σ σ0 : L2.St} {ρ0 : Rho} {H0 G0 H G : Hp} {i : Nat} {v : V} {s : Sl} {vs : List V} {ks : List Sl} (k : Ok σ H G ρ) (hi : i < ρ.length) (t : Tr σ0 ρ0 H0 G0 σ ρ H G) (r : KR H0 H G (v :: vs) (s :: ks))
    (nm : ∀ (j : Nat) (w' : Own) (a : Addr), ρ[j]? = some (some (.o w')) → σ[j]? = some (some (.ref a)) → v = .ref a → H0 a ≠ Option.none ∨ False) :
    Ok (σ.set i (some v)) H G (ρ.set i (some s)) ∧ Tr σ0 ρ0 H0 G0 (σ.set i (some v)) (ρ.set i (some s)) H G := by
  cases r with
  | d h _ => exact ⟨k.setD h, t.trans tr_setD⟩
  | @o a o w _ _ n h g p ne r =>
    refine ⟨k.setO hi h g p fun j w' _ e1 e2 => ?_, ⟨t.keep, t.there, t.up, t.new, fun b m => ?_⟩⟩
    · rcases nm j w' a e1 e2 rfl with z | z
      · exact z n
      · exact z
    · obtain ⟨j, w', h1, h2⟩ := m
      by_cases e : i = j
      · subst e
        rw [List.getElem?_set_self (by rw [k.len]; exact hi)] at h2
        have := V.ref.inj (Option.some.inj (Option.some.inj h2))
        subst this
        exact .inr n
      · rw [List.getElem?_set_ne e] at h1 h2
        exact t.mt b ⟨j, w', h1, h2⟩
end
end Lw
set_option Elab.async false
set_option linter.all false
set_option maxRecDepth 100000
namespace Lw
open PySem PySem.Spec PyProof.Rows L2
section
variable {K : PySem.W.Frag} {ρ : Rho} {te ta tb tc : TE} {tt tu : TT} {ts tr : TA} {d x y z : D} {xs ys ds : List D} {w : Own} {t u : TS} {P : De}
theorem Ok.ne0 {σ : L2.St} {H G H1 : Hp} (k : Ok σ H G ρ) (there : ∀ a, H1 a = Option.none → H a = Option.none) {ρ1 : Rho} (own : ∀ (i : Nat) (w : Own), ρ1[i]? = some (some (.o w)) → ∃ w', ρ[i]? = some (some (.o w'))) {j : Nat} {w' : Own} {a : Addr} (e1 : ρ1[j]? = some (some (.o w'))) (e2 : σ[j]? = some (some (.ref a))) : H a ≠ Option.none := by
  obtain ⟨w2, e3⟩ := own j w' e1
  obtain ⟨b, o, h1, h2, _⟩ := k.o e3
  rw [e2] at h1
  have := V.ref.inj (Option.some.inj (Option.some.inj h1))
  subst this
  rw [h2]
  exact fun z => nomatch z
/-- a new object into a slot, which owns it -/
theorem r_asgF {i : Nat} (h : EvF te ρ w) (hi : i < ρ.length) (p : P.nx (ρ.set i (some (.o w)))) : RunS (tAsg te (gName i)) ρ P := fun σ H G k D q1 q2 q3 q4 =>
  h σ H G k _ fun a o H1 G1 x1 n1 h1 g1 w1 => by
    obtain ⟨k2, t2⟩ := set_any (i := i) (k.px x1) hi (Te.of x1).tr (.o (vs := []) (ks := []) n1 h1 g1 w1 (by simp) .nil) (fun j w' b e1 e2 e3 => by
      have := V.ref.inj e3
      subst this
      exact .inl (k.ne0 (fun a e => e) (H1 := H) (fun i w e => ⟨w, e⟩) e1 e2))
    exact q1 _ _ H1 G1 t2 k2 p
/-- the slots set one after the other, from a list of values -/
theorem sets_any : ∀ (is : List Nat) {σ σ0 : L2.St} {ρ0 ρ : Rho} {H0 G0 H G : Hp} {vs : List V} {ks : List Sl}, is.length = ks.length → (∀ i, i ∈ is → i < ρ.length) → Ok σ H G ρ → Tr σ0 ρ0 H0 G0 σ ρ H G → KR H0 H G vs ks →
    (∀ (j : Nat) (w' : Own) (a : Addr), ρ[j]? = some (some (.o w')) → σ[j]? = some (some (.ref a)) → H0 a ≠ Option.none ∨ (V.ref a ∉ vs)) →
    Ok ((is.zip vs).foldl (fun σ p => σ.set p.1 (some p.2)) σ) H G ((is.zip ks).foldl (fun ρ p => ρ.set p.1 (some p.2)) ρ) ∧ Tr σ0 ρ0 H0 G0 ((is.zip vs).foldl (fun σ p => σ.set p.1 (some p.2)) σ) ((is.zip ks).foldl (fun ρ p => ρ.set p.1 (some p.2)) ρ) H G
  | [], _, _, _, _, _, _, _, _, _, _, _, _, k, t, _, _ => ⟨k, t⟩
  | i :: is, σ, σ0, ρ0, ρ, H0, G0, H, G, vs, ks, hl, hb, k, t, kr, nm => by
    cases kr with
    | nil => simp at hl
    | @d v x vs ks h r =>
      have hk := set_any (i := i) k (hb i List.mem_cons_self) t (.d (vs := []) (ks := []) h .nil) (fun j w' a e1 e2 e3 => by
        rcases nm j w' a e1 e2 with z | z
        · exact .inl z
        · exact absurd (by rw [e3]; exact List.mem_cons_self) z)
      refine sets_any is (by simpa using hl) (fun j hj => by rw [List.length_set]; exact hb j (List.mem_cons_of_mem _ hj)) hk.1 hk.2 r (fun j w' a e1 e2 => ?_)
      by_cases e : i = j
      · subst e
        rw [List.getElem?_set_self (hb i List.mem_cons_self)] at e1
        cases e1
      · rw [List.getElem?_set_ne e] at e1 e2
        rcases nm j w' a e1 e2 with z | z
        · exact .inl z
        · exact .inr fun m => z (List.mem_cons_of_mem _ m)
    | @o a o w vs ks n h g p ne r =>
      have hk := set_any (i := i) k (hb i List.mem_cons_self) t (.o (vs := []) (ks := []) n h g p (by simp) .nil) (fun j w' b e1 e2 e3 => by
        rcases nm j w' b e1 e2 with z | z
        · exact .inl z
        · exact absurd (by rw [e3]; exact List.mem_cons_self) z)
      refine sets_any is (by simpa using hl) (fun j hj => by rw [List.length_set]; exact hb j (List.mem_cons_of_mem _ hj)) hk.1 hk.2 r (fun j w' b e1 e2 => ?_)
      by_cases e : i = j
      · subst e
        rw [List.getElem?_set_self (by rw [k.len]; exact hb i List.mem_cons_self)] at e2
        have := V.ref.inj (Option.some.inj (Option.some.inj e2))
        subst this
        exact .inr ne
      · rw [List.getElem?_set_ne e] at e1 e2
        rcases nm j w' b e1 e2 with z | z
        · exact .inl z
        · exact .inr fun m => z (List.mem_cons_of_mem _ m)
theorem sets_ev {σ : L2.St} {ρ1 : Rho} {H G H1 G1 : Hp} {vs : List V} {ks : List Sl} (is : List Nat) (hl : is.length = ks.length) (hb : ∀ i, i ∈ is → i < ρ1.length) (k : Ok σ H G ρ) (t : Te σ ρ H G ρ1 H1 G1) (k1 : Ok σ H1 G1 ρ1) (kr : KR H H1 G1 vs ks) :
    Ok ((is.zip vs).foldl (fun σ p => σ.set p.1 (some p.2)) σ) H1 G1 ((is.zip ks).foldl (fun ρ p => ρ.set p.1 (some p.2)) ρ1) ∧ Tr σ ρ H G ((is.zip vs).foldl (fun σ p => σ.set p.1 (some p.2)) σ) ((is.zip ks).foldl (fun ρ p => ρ.set p.1 (some p.2)) ρ1) H1 G1 :=
  sets_any is hl hb k1 t.tr kr fun j w' a e1 e2 => .inl (k.ne0 t.there t.own e1 e2)
theorem KR.len {H H' G' : Hp} : ∀ {vs : List V} {ks : List Sl}, KR H H' G' vs ks → vs.length = ks.length
  | _, _, .nil => rfl
  | _, _, .d _ r => by rw [List.length_cons, List.length_cons, r.len]
  | _, _, .o _ _ _ _ _ r => by rw [List.length_cons, List.length_cons, r.len]
/-- a, b = x, y by swapped stores -/
theorem r_par {i j : Nat} (h : EvK ts ρ fun ρ' ks => ∃ s1 s2, ks = [s1, s2] ∧ i < ρ'.length ∧ j < ρ'.length ∧ P.nx ((ρ'.set i (some s1)).set j (some s2))) : RunS (tPar i j ts) ρ P := fun σ H G k D q1 q2 q3 q4 =>
  h σ H G k _ fun vs ks ρ1 H1 G1 t1 k1 kr ⟨s1, s2, e, b1, b2, p⟩ => by
    subst e
    have hl := kr.len
    match vs, kr, hl with
    | [v, w], kr, _ =>
      obtain ⟨k2, t2⟩ := sets_ev [i, j] rfl (by intro a ha; simp at ha; rcases ha with rfl | rfl <;> assumption) k t1 k1 kr
      exact ⟨v, w, rfl, q1 _ _ H1 G1 t2 k2 p⟩
theorem r_par3 {i j l : Nat} (h : EvK ts ρ fun ρ' ks => ∃ s1 s2 s3, ks = [s1, s2, s3] ∧ i < ρ'.length ∧ j < ρ'.length ∧ l < ρ'.length ∧ P.nx (((ρ'.set i (some s1)).set j (some s2)).set l (some s3))) : RunS (tPar3 i j l ts) ρ P := fun σ H G k D q1 q2 q3 q4 =>
  h σ H G k _ fun vs ks ρ1 H1 G1 t1 k1 kr ⟨s1, s2, s3, e, b1, b2, b3, p⟩ => by
    subst e
    have hl := kr.len
    match vs, kr, hl with
    | [v, w, u], kr, _ =>
      obtain ⟨k2, t2⟩ := sets_ev [i, j, l] rfl (by intro a ha; simp at ha; rcases ha with rfl | rfl | rfl <;> assumption) k t1 k1 kr
      exact ⟨v, w, u, rfl, q1 _ _ H1 G1 t2 k2 p⟩
/-- behind a display the tuple itself is let go -/
theorem KR.new {H H1 G1 : Hp} {p : Addr} {o : HO} (n : H1 p = Option.none) : ∀ {vs : List V} {ks : List Sl}, KR H H1 G1 vs ks → KR H (upd H1 p o) G1 vs ks
  | _, _, .nil => .nil
  | _, _, .d h r => .d h (r.new n)
  | _, _, .o n0 h g q ne r => .o n0 (same_new n _ _ h) g q ne (r.new n)
theorem te_new {σ : L2.St} {ρ1 : Rho} {H G H1 G1 : Hp} {p : Addr} {o : HO} (t : Te σ ρ H G ρ1 H1 G1) (k1 : Ok σ H1 G1 ρ1) (n : H1 p = Option.none) : Te σ ρ H G ρ1 (upd H1 p o) G1 ∧ Ok σ (upd H1 p o) G1 ρ1 :=
  ⟨t.trans (Te.of (Px.new k1.sub n)), k1.px (Px.new k1.sub n)⟩
/-- a, b = x, y by a tuple -/
theorem r_tup2 {i j : Nat} (h : EvK ts ρ fun ρ' ks => ∃ s1 s2, ks = [s1, s2] ∧ i < ρ'.length ∧ j < ρ'.length ∧ P.nx ((ρ'.set i (some s1)).set j (some s2))) : RunS (tAsg (tTup ts) (gTup K 2 (gCons (gName i) (gCons (gName j) gNil)))) ρ P := fun σ H G k D q1 q2 q3 q4 =>
  h σ H G k _ fun vs ks ρ1 H1 G1 t1 k1 kr ⟨s1, s2, e, b1, b2, p⟩ => by
    subst e
    have hl := kr.len
    match vs, kr, hl with
    | [v, w], kr, _ =>
      refine ⟨by show 2 ≤ sizeLine; decide, fun a ha => ?_⟩
      obtain ⟨t1', k1'⟩ := te_new (o := .tup [v, w]) t1 k1 ha
      obtain ⟨k2, t2⟩ := sets_ev [i, j] rfl (by intro a ha; simp at ha; rcases ha with rfl | rfl <;> assumption) k t1' k1' (kr.new ha)
      exact ⟨a, [v, w], rfl, SqT.of upd_same, rfl, v, [w], rfl, w, [], rfl, rfl, q1 _ _ _ G1 t2 k2 p⟩
theorem r_tup3 {i j l : Nat} (h : EvK ts ρ fun ρ' ks => ∃ s1 s2 s3, ks = [s1, s2, s3] ∧ i < ρ'.length ∧ j < ρ'.length ∧ l < ρ'.length ∧ P.nx (((ρ'.set i (some s1)).set j (some s2)).set l (some s3))) :
    RunS (tAsg (tTup ts) (gTup K 3 (gCons (gName i) (gCons (gName j) (gCons (gName l) gNil))))) ρ P := fun σ H G k D q1 q2 q3 q4 =>
  h σ H G k _ fun vs ks ρ1 H1 G1 t1 k1 kr ⟨s1, s2, s3, e, b1, b2, b3, p⟩ => by
    subst e
    have hl := kr.len
    match vs, kr, hl with
    | [v, w, u], kr, _ =>
      refine ⟨by show 3 ≤ sizeLine; decide, fun a ha => ?_⟩
      obtain ⟨t1', k1'⟩ := te_new (o := .tup [v, w, u]) t1 k1 ha
      obtain ⟨k2, t2⟩ := sets_ev [i, j, l] rfl (by intro a ha; simp at ha; rcases ha with rfl | rfl | rfl <;> assumption) k t1' k1' (kr.new ha)
      exact ⟨a, [v, w, u], rfl, SqT.of upd_same, rfl, v, [w, u], rfl, w, [u], rfl, u, [], rfl, rfl, q1 _ _ _ G1 t2 k2 p⟩
/-- a, b = e, e a pair -/
theorem r_unp {i j : Nat} (h : EvZ te ρ fun ρ' d => ∃ x y, d = .tuple [x, y] ∧ P.nx ((ρ'.set i (some (.d x))).set j (some (.d y)))) : RunS (tAsg te (gTup K 2 (gCons (gName i) (gCons (gName j) gNil)))) ρ P := fun σ H G k D q1 q2 q3 q4 =>
  h σ H G k _ fun v d ρ1 H1 G1 t1 k1 r1 ⟨x, y, e, p⟩ => by
    subst e
    obtain ⟨a, hu, vs, rfl, h1, hs, r⟩ := r1.tupV
    cases r with
    | @cons v0 _ _ _ h0 r =>
      cases r with
      | @cons v2 _ _ _ h2 r =>
        cases r
        exact ⟨a, [v0, v2], rfl, sqt_seal (k1.sub _ _ h1) hs, rfl, v0, [v2], rfl, v2, [], rfl, rfl, q1 _ _ H1 G1 ((t1.tr.trans tr_setD).trans tr_setD) ((k1.setD h0).setD h2) p⟩
theorem r_drop (h : EvZ te ρ fun ρ' _ => P.nx ρ') : RunS (tDrop te) ρ P := fun σ H G k D q1 q2 q3 q4 => h σ H G k _ fun v d ρ1 H1 G1 t1 k1 r1 p => q1 σ ρ1 H1 G1 t1.tr k1 p

/-! ### owned lists -/
theorem te_chg {σ : L2.St} {H G : Hp} {i : Nat} {a : Addr} {o : HO} {w' : Own} (k : Ok σ H G ρ) (e : ρ[i]? = some (some (.o w))) (es : σ[i]? = some (some (.ref a))) : Te σ ρ H G (ρ.set i (some (.o w'))) (upd H a o) G :=
  ⟨fun b u hb n => by rw [upd_ne (fun z => n ⟨i, w, e, by rw [z]; exact es⟩)]; exact hb, fun b hb => by
    by_cases q : b = a
    · rw [q, upd_same] at hb
      cases hb
    · rw [upd_ne q] at hb
      exact hb, Same.refl G, fun b e' q => absurd e' q, fun j w2 h => by
    by_cases q : i = j
    · subst q
      exact ⟨w, e⟩
    · rw [List.getElem?_set_ne q] at h
      exact ⟨w2, h⟩⟩
/-- found.append(e) -/
theorem z_app {Pz : Rho → D → Prop} {i : Nat} (h : EvZ te ρ fun ρ' d => ∃ ds, ρ[i]? = some (some (.o (mlist ds))) ∧ ρ'[i]? = some (some (.o (mlist ds))) ∧ ds.length < 100000 ∧ Pz (ρ'.set i (some (.o (mlist (ds ++ [d]))))) .none) (hi : ∃ ds, ρ[i]? = some (some (.o (mlist ds)))) :
    EvZ (tBM K "list" rAppend (tVar i) (tCons te tNil)) ρ Pz := fun σ H G k Q q => by
  obtain ⟨ds0, hi⟩ := hi
  obtain ⟨a, o, h1, h2, h3, vs, rfl, r⟩ := k.o hi
  refine ⟨.ref a, h1, .inl ⟨rfl, vs, SqL.of h2⟩, ?_⟩
  refine h σ H G k _ fun v d ρ1 H1 G1 t1 k1 r1 ⟨ds, e0, e1, hl, p⟩ => ?_
  obtain ⟨a', o', g1, g2, g3, vs', rfl, r'⟩ := k1.o e1
  have ea : a' = a := by
    rw [h1] at g1
    exact (V.ref.inj (Option.some.inj (Option.some.inj g1))).symm
  subst ea
  refine ⟨a', vs', v, rfl, rfl, g2, by rw [r'.len]; exact Nat.lt_of_lt_of_le hl (by decide), ?_⟩
  exact q .non .none _ _ G1 (t1.trans (te_chg k1 e1 h1)) (k1.chg (w' := mlist (ds ++ [d])) e1 h1 g3 ⟨_, rfl, r'.app (.one r1)⟩) .non p
theorem r_app {i : Nat} (hi : ρ[i]? = some (some (.o (mlist ds)))) (h : EvE te ρ x) (hl : ds.length < 100000) (p : P.nx (ρ.set i (some (.o (mlist (ds ++ [x])))))) : RunS (tDrop (tBM K "list" rAppend (tVar i) (tCons te tNil))) ρ P :=
  r_drop (z_app (z_e h ⟨ds, hi, hi, hl, p⟩) ⟨ds, hi⟩)
/-- found.extend(e), e a new list -/
theorem r_ext {i : Nat} (hi : ρ[i]? = some (some (.o (mlist ds)))) (h : EvF te ρ (mlist xs)) (hl : ds.length + xs.length ≤ 100000) (p : P.nx (ρ.set i (some (.o (mlist (ds ++ xs)))))) : RunS (tDrop (tBM K "list" rExtend (tVar i) (tCons te tNil))) ρ P := fun σ H G k D q1 q2 q3 q4 => by
  obtain ⟨a, o, h1, h2, h3, vs, rfl, r⟩ := k.o hi
  refine ⟨.ref a, h1, .inl ⟨rfl, vs, SqL.of h2⟩, ?_⟩
  refine h σ H G k _ fun b o' H1 G1 x1 n1 hb g1 ⟨us, e, r1⟩ => ?_
  subst e
  have k1 := k.px x1
  have r' := r.mono x1.g
  have g3 : G1 a = Option.none := by
    obtain ⟨a', _, e1, _, e3, _⟩ := k1.o hi
    rw [h1] at e1
    rw [V.ref.inj (Option.some.inj (Option.some.inj e1))]
    exact e3
  refine ⟨a, b, vs, us, rfl, rfl, x1.h _ _ h2, hb, by rw [r.len, r1.len]; exact Nat.le_trans hl (by decide), ?_⟩
  exact q1 σ _ _ G1 (((Te.of x1).trans (te_chg k1 hi h1)).tr) (k1.chg (w' := mlist (ds ++ xs)) hi h1 g3 ⟨_, rfl, r'.app r1⟩) p
/-- seats[k] = e -/
theorem r_setL {i : Nat} {n : Nat} (hi : ρ[i]? = some (some (.o (mlist ds)))) (h : EvE te ρ x) (hn : EvE ta ρ (.int (n : Int))) (hl : n < ds.length) (p : P.nx (ρ.set i (some (.o (mlist (ds.set n x)))))) : RunS (tAsg te (gSub (tVar i) ta rSetL)) ρ P := fun σ H G k D q1 q2 q3 q4 =>
  h σ H G k _ fun v H1 G1 x1 r1 => by
    have k1 := k.px x1
    obtain ⟨a, o, h1, h2, h3, vs, rfl, r⟩ := k1.o hi
    refine ⟨.ref a, h1, hn σ H1 G1 k1 _ fun u H2 G2 x2 r2 => ?_⟩
    have k2 := k1.px x2
    have g3 : G2 a = Option.none := by
      obtain ⟨a', _, e1, _, e3, _⟩ := k2.o hi
      rw [h1] at e1
      rw [V.ref.inj (Option.some.inj (Option.some.inj e1))]
      exact e3
    refine ⟨a, vs, (n : Int), n, rfl, r2.intV, x2.h _ _ h2, ?_, ?_⟩
    · have : n < vs.length := by rw [r.len]; exact hl
      unfold ixN
      rw [if_pos (by omega), if_pos (by omega)]
      simp
    · exact q1 σ _ _ G2 (((Te.of (x1.trans x2)).trans (te_chg k2 hi h1)).tr) (k2.chg (w' := mlist (ds.set n x)) hi h1 g3 ⟨_, rfl, (r.mono x2.g).set n (r1.mono x2.g)⟩) p
/-- an owned list goes stable, ahead of a statement -/
theorem r_frz {i : Nat} (hi : ρ[i]? = some (some (.o (mlist ds)))) (h : RunS t (ρ.set i (some (.d (.list ds)))) P) : RunS t ρ P := fun σ H G k D q1 q2 q3 q4 => by
  obtain ⟨a, o, h1, h2, h3, vs, rfl, r⟩ := k.o hi
  have k2 := k.frz hi h1 h2 h3 (.lst upd_same (r.mono (same_new h3)))
  have t2 : Tr σ ρ H G σ (ρ.set i (some (.d (.list ds)))) H (upd G a (.lst vs)) := ⟨fun _ _ e _ => e, fun _ e => e, same_new h3, fun b e q => by
    by_cases z : b = a
    · rw [z]
      exact .inr (.inl ⟨i, _, hi, h1⟩)
    · rw [upd_ne z] at q
      exact absurd e q, fun b m => by
    obtain ⟨j, w', e1, e2⟩ := m
    by_cases q : i = j
    · subst q
      rw [List.getElem?_set_self (List.getElem?_eq_some_iff.mp hi).1] at e1
      cases e1
    · rw [List.getElem?_set_ne q] at e1
      exact .inl ⟨j, w', e1, e2⟩⟩
  exact h σ H _ k2 D (fun σ' ρ' H' G' r => q1 σ' ρ' H' G' (t2.trans r)) (fun v d σ' ρ' H' G' r => q2 v d σ' ρ' H' G' (t2.trans r)) (fun σ' ρ' H' G' r => q3 σ' ρ' H' G' (t2.trans r)) fun σ' ρ' H' G' r => q4 σ' ρ' H' G' (t2.trans r)
theorem getElem_set_self' {ρ : Rho} {i : Nat} {s : Option Sl} {u : Option Sl} (h : ρ[i]? = some u) : (ρ.set i s)[i]? = some s := List.getElem?_set_self (List.getElem?_eq_some_iff.mp h).1
theorem r_retO {i : Nat} (hi : ρ[i]? = some (some (.o (mlist ds)))) (p : P.rt (ρ.set i (some (.d (.list ds)))) (.list ds)) : RunS (tRet (tVar i)) ρ P := r_frz hi (r_ret (e_var (getElem_set_self' hi)) p)
/-- the rest of an env -/
theorem r_weak {s : Addr} {b c : Nat} {i : Nat} (hi : ρ[i]? = some (some (.o (tin s b)))) (hc : c ≤ b) (h : RunS t (ρ.set i (some (.o (tin s c)))) P) : RunS t ρ P := fun σ H G k D q1 q2 q3 q4 => by
  obtain ⟨a, o, h1, h2, h3, h4⟩ := k.o hi
  have eu : upd H a o = H := by
    funext b
    by_cases z : b = a
    · rw [z, upd_same, h2]
    · rw [upd_ne z]
  have k2 := k.chg (o := o) (w' := tin s c) hi h1 h3 (tin_less h4 hc)
  have t2 := te_chg (o := o) (w' := tin s c) k hi h1
  rw [eu] at k2 t2
  exact h.after t2 k2 q1 q2 q3 q4
end
end Lw
set_option Elab.async false
set_option linter.all false
set_option maxRecDepth 100000
namespace Lw
open PySem PySem.Spec PyProof.Rows L2
/-! ### what is walked -/
structure Yl (J : It) (xs : List D) (S G : Hp) : Prop where
  go : ∀ i H', Same S H' → i < xs.length → J.go i H'
  stop : ∀ i H', Same S H' → xs.length ≤ i → J.stop i H'
  yld : ∀ i H' x H'' d, Same S H' → xs[i]? = some d → J.yld i H' x H'' → ∀ G2, Same G G2 → Same G2 H' → ∃ G3, Px H' G2 H'' G3 ∧ Rp G3 x d
def Iter (wi : TI) (ρ : Rho) (xs : List D) : Prop := ∀ σ H G, Ok σ H G ρ → ∀ R : It → Hp → Prop, (∀ J H1 G1, Px H G H1 G1 → Yl J xs H1 G1 → R J H1) → wi σ H R
def IterS (wi : TI) (ρ : Rho) (xs : List D) : Prop := ∀ σ H G, Ok σ H G ρ → ∀ R : It → Hp → Prop, (∀ J H1 G1, Px H G H1 G1 → Yl J xs G1 G1 → R J H1) → wi σ H R
theorem Yl.mono {J : It} {xs : List D} {S S' G : Hp} (y : Yl J xs S G) (e : Same S S') : Yl J xs S' G := ⟨fun i H' q => y.go i H' (e.trans q), fun i H' q => y.stop i H' (e.trans q), fun i H' x H'' d q => y.yld i H' x H'' d (e.trans q)⟩
theorem IterS.i {wi : TI} {ρ : Rho} {xs : List D} (h : IterS wi ρ xs) : Iter wi ρ xs := fun σ H G k R q => h σ H G k R fun J H1 G1 x y => q J H1 G1 x (y.mono x.s)
section
variable {K : PySem.W.Frag} {ρ : Rho} {te ta tb tc tl : TE} {tt tu : TT} {ts tr : TA} {d x y z : D} {xs ys ds : List D} {w : Own} {t u : TS} {P : De}
theorem yl_list {a : Addr} {vs : List V} {S G : Hp} (h : S a = some (.lst vs)) (r : RpL G vs xs) : Yl (Itl K a) xs S G :=
  ⟨fun i H' e hi => ⟨vs, vs[i]'(by rw [r.len]; exact hi), SqL.of (e _ _ h), by simp [r.len, hi]⟩, fun i H' e hi => ⟨vs, SqL.of (e _ _ h), by rw [r.len]; exact hi⟩, fun i H' x H'' d e hd y G2 g2 s2 => by
    obtain ⟨e1, e2⟩ := y
    subst e1
    obtain ⟨v, h1, h2⟩ := r.get hd
    have := e2 vs (SqL.of (e _ _ h))
    rw [h1] at this
    have := Option.some.inj this
    subst this
    exact ⟨G2, Px.refl s2, h2.mono g2⟩⟩
theorem yl_tup {a : Addr} {vs : List V} {u : HO} {S G : Hp} (h : S a = some u) (hu : sealT vs u) (r : RpL G vs xs) : Yl (Itt K a) xs S G :=
  ⟨fun i H' e hi => ⟨vs, vs[i]'(by rw [r.len]; exact hi), sqt_seal (e _ _ h) hu, by simp [r.len, hi]⟩, fun i H' e hi => ⟨vs, sqt_seal (e _ _ h) hu, by rw [r.len]; exact hi⟩, fun i H' x H'' d e hd y G2 g2 s2 => by
    obtain ⟨e1, e2⟩ := y
    subst e1
    obtain ⟨v, h1, h2⟩ := r.get hd
    have := e2 vs (sqt_seal (e _ _ h) hu)
    rw [h1] at this
    have := Option.some.inj this
    subst this
    exact ⟨G2, Px.refl s2, h2.mono g2⟩⟩
theorem i_listS (h : EvE tl ρ (.list xs)) : IterS (iList K tl) ρ xs := fun σ H G k R q => h σ H G k _ fun v H1 G1 x1 r1 => by
  obtain ⟨a, vs, rfl, h1, r⟩ := r1.lstV
  exact ⟨a, rfl, ⟨vs, SqL.of (x1.s _ _ h1)⟩, q _ H1 G1 x1 (yl_list h1 r)⟩
theorem i_list (h : EvB tl ρ (.list xs)) : Iter (iList K tl) ρ xs := fun σ H G k R q => h σ H G k _ fun v H1 G1 x1 r1 => by
  obtain ⟨a, vs, rfl, h1, r⟩ := r1.lstV x1.s
  exact ⟨a, rfl, ⟨vs, SqL.of h1⟩, q _ H1 G1 x1 (yl_list h1 r)⟩
theorem i_tup (h : EvE tl ρ (.tuple xs)) : IterS (iTup K tl) ρ xs := fun σ H G k R q => h σ H G k _ fun v H1 G1 x1 r1 => by
  obtain ⟨a, u, vs, rfl, h1, hu, r⟩ := r1.tupV
  exact ⟨a, rfl, ⟨vs, sqt_seal (x1.s _ _ h1) hu⟩, q _ H1 G1 x1 (yl_tup h1 hu r)⟩
/-- a list or a tuple -/
def iSeq (K : PySem.W.Frag) (tl : TE) : TI := fun σ H R => tl σ H fun x H1 => ∃ a, x = .ref a ∧ (((∃ xs, SqL K H1 a xs) ∧ R (Itl K a) H1) ∨ ((∃ xs, SqT K H1 a xs) ∧ R (Itt K a) H1))
theorem i_seq (h : EvE tl ρ x) (e : seqD xs x) : IterS (iSeq K tl) ρ xs := fun σ H G k R q => h σ H G k _ fun v H1 G1 x1 r1 => by
  rcases e with e | e
  · subst e
    obtain ⟨a, vs, rfl, h1, r⟩ := r1.lstV
    exact ⟨a, rfl, .inl ⟨⟨vs, SqL.of (x1.s _ _ h1)⟩, q _ H1 G1 x1 (yl_list h1 r)⟩⟩
  · subst e
    obtain ⟨a, u, vs, rfl, h1, hu, r⟩ := r1.tupV
    exact ⟨a, rfl, .inr ⟨⟨vs, sqt_seal (x1.s _ _ h1) hu⟩, q _ H1 G1 x1 (yl_tup h1 hu r)⟩⟩
def natD (n : Nat) : D := .int (n : Int)
def natsD (ns : List Nat) : List D := ns.map natD
theorem natsD_ints (ns : List Nat) : natsD ns = (ns.map fun n : Nat => (n : Int)).map PyData.int := by
  unfold natsD natD
  rw [List.map_map]
  rfl
theorem yl_rng {n lo : Nat} {S G : Hp} : Yl (Itr (lo : Int) n) (natsD (List.range' lo n)) S G :=
  ⟨fun i H' e hi => by unfold natsD at hi; rw [List.length_map, List.length_range'] at hi; exact hi, fun i H' e hi => by unfold natsD at hi; rw [List.length_map, List.length_range'] at hi; exact hi, fun i H' x H'' d e hd y G2 g2 s2 => by
    obtain ⟨e1, e2⟩ := y
    subst e1 e2
    refine ⟨G2, Px.refl s2, ?_⟩
    unfold natsD at hd
    rw [List.getElem?_map] at hd
    by_cases hi : i < n
    · rw [List.getElem?_range' hi] at hd
      have := Option.some.inj hd
      subst this
      have e3 : ((lo + 1 * i : Nat) : Int) = (lo : Int) + (i : Int) := by omega
      unfold natD
      rw [e3]
      exact .int _
    · rw [List.getElem?_eq_none (by rw [List.length_range']; omega)] at hd
      cases hd⟩
theorem i_rng1 {n : Nat} (h : EvE te ρ (.int (n : Int))) (hn : n ≤ 100000) : IterS (iRng1 (tCons te tNil)) ρ (natsD (List.range n)) := fun σ H G k R q => h σ H G k _ fun v H1 G1 x1 r1 => by
  have e := r1.intV
  subst e
  refine ⟨(n : Int), rfl, by omega, by omega, ?_⟩
  rw [Int.toNat_natCast]
  have := yl_rng (n := n) (lo := 0) (S := G1) (G := G1)
  rw [← List.range_eq_range'] at this
  exact q _ H1 G1 x1 this
theorem i_rng2 {lo n : Nat} (h : EvE ta ρ (.int (lo : Int))) (h2 : EvE tb ρ (.int ((lo + n : Nat) : Int))) (hn : lo + n ≤ 100000) : IterS (iRng2 (tCons ta (tCons tb tNil))) ρ (natsD (List.range' lo n)) := fun σ H G k R q => h σ H G k _ fun v H1 G1 x1 r1 => h2 σ H1 G1 (k.px x1) _ fun u H2 G2 x2 r2 => by
  have e := r1.intV
  have e2 := r2.intV
  subst e e2
  refine ⟨(lo : Int), ((lo + n : Nat) : Int), rfl, ⟨by omega, by omega, by omega, by omega⟩, ?_⟩
  have e3 : (((lo + n : Nat) : Int) - (lo : Int)).toNat = n := by omega
  rw [e3]
  exact q _ H2 G2 (x1.trans x2) yl_rng

/-! ### a target is bound -/
def Bnd (g : TG) (ρ : Rho) (d : D) (Pg : Rho → Prop) : Prop := ∀ σ H G, Ok σ H G ρ → ∀ v, Rp G v d → ∀ Q : L2.St → Hp → Prop, (∀ σ2 ρ2, Ok σ2 H G ρ2 → Tr σ ρ H G σ2 ρ2 H G → Pg ρ2 → Q σ2 H) → g v σ H Q
theorem bnd_name {j : Nat} {Pg : Rho → Prop} (h : Pg (ρ.set j (some (.d d)))) : Bnd (gName j) ρ d Pg := fun σ H G k v r Q q => q _ _ (k.setD r) tr_setD h
theorem bnd_pair {i j : Nat} {Pg : Rho → Prop} (h : Pg ((ρ.set i (some (.d x))).set j (some (.d y)))) : Bnd (gTup K 2 (gCons (gName i) (gCons (gName j) gNil))) ρ (prD x y) Pg := fun σ H G k v r Q q => by
  obtain ⟨a, v0, v2, rfl, h1, h0, h2⟩ := r.prV
  exact ⟨a, [v0, v2], rfl, SqT.of (k.sub _ _ h1), rfl, v0, [v2], rfl, v2, [], rfl, rfl, q _ _ ((k.setD h0).setD h2) (tr_setD.trans tr_setD) h⟩
theorem bnd_tup {i j : Nat} {Pg : Rho → Prop} (h : Pg ((ρ.set i (some (.d x))).set j (some (.d y)))) : Bnd (gTup K 2 (gCons (gName i) (gCons (gName j) gNil))) ρ (.tuple [x, y]) Pg := fun σ H G k v r Q q => by
  obtain ⟨a, u, vs, rfl, h1, hu, r⟩ := r.tupV
  cases r with
  | @cons v0 _ _ _ h0 r =>
    cases r with
    | @cons v2 _ _ _ h2 r =>
      cases r
      exact ⟨a, [v0, v2], rfl, sqt_seal (k.sub _ _ h1) hu, rfl, v0, [v2], rfl, v2, [], rfl, rfl, q _ _ ((k.setD h0).setD h2) (tr_setD.trans tr_setD) h⟩
theorem r_for {α : Type} {wi : TI} {g : TG} {tb : TS} (ys : List α) (enc : α → D) (I : Nat → Rho → Prop) (hs : IterS wi ρ (ys.map enc)) (h0 : I 0 ρ)
    (hb : ∀ i y ρ1, ys[i]? = some y → I i ρ1 → Bnd g ρ1 (enc y) fun ρ2 => RunS tb ρ2 { nx := I (i + 1), ct := I (i + 1), bk := P.nx, rt := P.rt }) (hd : ∀ ρ1, I ys.length ρ1 → P.nx ρ1) : RunS (tFor wi g tb) ρ P := fun σ H G k D q1 q2 q3 q4 =>
  hs σ H G k _ fun J H1 G1 x1 yl => by
    refine ⟨fun i m σ' H' => m = ys.length - i ∧ i ≤ ys.length ∧ ∃ ρ' G', Tr σ ρ H G σ' ρ' H' G' ∧ Ok σ' H' G' ρ' ∧ I i ρ' ∧ Same G1 G', ⟨ys.length, by simp, Nat.zero_le _, ρ, G1, (Te.of x1).tr, k.px x1, h0, Same.refl G1⟩, ?_⟩
    rintro i m σ' H' ⟨rfl, hi, ρ', G', t', k', hI, g'⟩
    by_cases hlt : i < ys.length
    · refine .inr ⟨yl.go i H' (g'.trans k'.sub) (by rw [List.length_map]; exact hlt), fun σ2 H2 => i + 1 ≤ ys.length ∧ ∃ ρ2 G2, Tr σ ρ H G σ2 ρ2 H2 G2 ∧ Ok σ2 H2 G2 ρ2 ∧ I (i + 1) ρ2 ∧ Same G1 G2, fun σ2 H2 hN => ⟨ys.length - (i + 1), by omega, rfl, hN⟩, fun x H'' hy => ?_⟩
      have hget : ys[i]? = some ys[i] := List.getElem?_eq_getElem hlt
      obtain ⟨G3, x3, r3⟩ := yl.yld i H' x H'' (enc ys[i]) (g'.trans k'.sub) (by rw [List.getElem?_map, hget]; rfl) hy G' g' k'.sub
      have k3 := k'.px x3
      have t3 := t'.trans (Te.of (σ := σ') (ρ := ρ') x3).tr
      refine hb i ys[i] ρ' hget hI σ' H'' G3 k3 x r3 _ fun σ2 ρ2 k4 t4 hr => ?_
      have t5 := t3.trans t4
      refine hr σ2 H'' G3 k4 _ (fun σ5 ρ5 H5 G5 t6 k6 h6 => ⟨hlt, ρ5, G5, t5.trans t6, k6, h6, (g'.trans x3.g).trans t6.up⟩) (fun v d σ5 ρ5 H5 G5 t6 => q2 v d σ5 ρ5 H5 G5 (t5.trans t6)) (fun σ5 ρ5 H5 G5 t6 => q1 σ5 ρ5 H5 G5 (t5.trans t6)) (fun σ5 ρ5 H5 G5 t6 k6 h6 => ⟨hlt, ρ5, G5, t5.trans t6, k6, h6, (g'.trans x3.g).trans t6.up⟩)
    · have e : i = ys.length := by omega
      subst e
      exact .inl ⟨yl.stop _ H' (g'.trans k'.sub) (by rw [List.length_map]; exact Nat.le_refl _), q1 σ' ρ' H' G' t' k' (hd ρ' hI)⟩
theorem r_while {tb : TS} (I : Nat → Rho → Prop) (m0 : Nat) (h0 : I m0 ρ)
    (hs : ∀ m ρ1, I m ρ1 → ∃ b, EvT tt ρ1 b ∧ (b = true → RunS tb ρ1 { nx := fun ρ2 => ∃ m', m' < m ∧ I m' ρ2, ct := fun ρ2 => ∃ m', m' < m ∧ I m' ρ2, bk := P.nx, rt := P.rt }) ∧ (b = false → P.nx ρ1)) : RunS (tWhile tt tb) ρ P := fun σ H G k D q1 q2 q3 q4 => by
  refine ⟨fun m σ' H' => ∃ ρ' G', Tr σ ρ H G σ' ρ' H' G' ∧ Ok σ' H' G' ρ' ∧ I m ρ', ⟨m0, ρ, G, Tr.refl, k, h0⟩, ?_⟩
  rintro m σ' H' ⟨ρ', G', t', k', hI⟩
  obtain ⟨b, hb, h1, h2⟩ := hs m ρ' hI
  refine hb σ' H' G' k' _ fun H2 G2 x2 => ?_
  have t2 := t'.trans (Te.of (σ := σ') (ρ := ρ') x2).tr
  have k2 := k'.px x2
  cases b with
  | true =>
    rw [if_pos rfl]
    refine ⟨fun σ3 H3 => ∃ m', m' < m ∧ ∃ ρ3 G3, Tr σ ρ H G σ3 ρ3 H3 G3 ∧ Ok σ3 H3 G3 ρ3 ∧ I m' ρ3, fun σ3 H3 h => h, ?_⟩
    exact h1 rfl σ' H2 G2 k2 _ (fun σ5 ρ5 H5 G5 t6 k6 ⟨m', hm, h6⟩ => ⟨m', hm, ρ5, G5, t2.trans t6, k6, h6⟩) (fun v d σ5 ρ5 H5 G5 t6 => q2 v d σ5 ρ5 H5 G5 (t2.trans t6)) (fun σ5 ρ5 H5 G5 t6 => q1 σ5 ρ5 H5 G5 (t2.trans t6)) (fun σ5 ρ5 H5 G5 t6 k6 ⟨m', hm, h6⟩ => ⟨m', hm, ρ5, G5, t2.trans t6, k6, h6⟩)
  | false =>
    rw [if_neg Bool.false_ne_true]
    exact q1 σ' ρ' H2 G2 t2 k2 (h2 rfl)

/-! ### comprehensions -/
def wipeR (ρ : Rho) : List Nat → Rho
  | [] => ρ
  | v :: vs => (wipeR ρ vs).set v none
theorem Ok.wipe {σ : L2.St} {H G : Hp} (k : Ok σ H G ρ) : ∀ vs : List Nat, Ok (L2.wipe σ vs) H G (wipeR ρ vs)
  | [] => k
  | v :: vs => (k.wipe vs).setN
theorem wipe_set {σ : L2.St} {j : Nat} {x : Option V} : ∀ {vs : List Nat}, j ∈ vs → L2.wipe (σ.set j x) vs = L2.wipe σ vs := by
  have comm : ∀ (vs : List Nat) (σ : L2.St), j ∉ vs → L2.wipe (σ.set j x) vs = (L2.wipe σ vs).set j x := by
    intro vs
    induction vs with
    | nil => intro σ _; rfl
    | cons v vs ih =>
      intro σ h
      show (L2.wipe (σ.set j x) vs).set v none = ((L2.wipe σ vs).set v none).set j x
      rw [ih σ (fun z => h (List.mem_cons_of_mem _ z)), List.set_comm _ _ (fun z => h (by rw [z]; exact List.mem_cons_self))]
  intro vs
  induction vs with
  | nil => intro h; simp at h
  | cons v vs ih =>
    intro h
    show (L2.wipe (σ.set j x) vs).set v none = (L2.wipe σ vs).set v none
    by_cases hj : j ∈ vs
    · rw [ih hj]
    · have e : j = v := by
        rcases List.mem_cons.mp h with e | e
        · exact e
        · exact absurd e hj
      subst e
      rw [comm vs σ hj, List.set_set]
theorem wipe_idem (σ : L2.St) : ∀ vs : List Nat, L2.wipe (L2.wipe σ vs) vs = L2.wipe σ vs
  | [] => rfl
  | v :: vs => by
    show (L2.wipe ((L2.wipe σ vs).set v none) vs).set v none = (L2.wipe σ vs).set v none
    by_cases h : v ∈ vs
    · rw [wipe_set h, wipe_idem σ vs]
    · have comm : ∀ (vs : List Nat) (σ : L2.St), v ∉ vs → L2.wipe (σ.set v none) vs = (L2.wipe σ vs).set v none := by
        intro vs
        induction vs with
        | nil => intro σ _; rfl
        | cons w vs ih =>
          intro σ h
          show (L2.wipe (σ.set v none) vs).set w none = ((L2.wipe σ vs).set w none).set v none
          rw [ih σ (fun z => h (List.mem_cons_of_mem _ z)), List.set_comm _ _ (fun z => h (by rw [z]; exact List.mem_cons_self))]
      rw [comm vs _ h, wipe_idem σ vs, List.set_set]
def BndC (g : TG) (vs : List Nat) (ρ : Rho) (d : D) (Pg : Rho → Prop) : Prop := ∀ σ H G, Ok σ H G ρ → ∀ v, Rp G v d → ∀ Q : L2.St → Hp → Prop, (∀ σ2 ρ2, L2.wipe σ2 vs = L2.wipe σ vs → Ok σ2 H G ρ2 → Pg ρ2 → Q σ2 H) → g v (L2.wipe σ vs) H Q
theorem bndc_name {j : Nat} {vs : List Nat} {Pg : Rho → Prop} (hj : j ∈ vs) (h : Pg ((wipeR ρ vs).set j (some (.d d)))) : BndC (gName j) vs ρ d Pg := fun σ H G k v r Q q =>
  q _ _ (by rw [wipe_set hj, wipe_idem]) ((k.wipe vs).setD r) h
theorem bndc_pair {i j : Nat} {vs : List Nat} {Pg : Rho → Prop} (hi : i ∈ vs) (hj : j ∈ vs) (h : Pg (((wipeR ρ vs).set i (some (.d x))).set j (some (.d y)))) : BndC (gTup K 2 (gCons (gName i) (gCons (gName j) gNil))) vs ρ (prD x y) Pg := fun σ H G k v r Q q => by
  obtain ⟨a, v0, v2, rfl, h1, h0, h2⟩ := r.prV
  exact ⟨a, [v0, v2], rfl, SqT.of (k.sub _ _ h1), rfl, v0, [v2], rfl, v2, [], rfl, rfl, q _ _ (by rw [wipe_set hj, wipe_set hi, wipe_idem]) (((k.wipe vs).setD h0).setD h2) h⟩
theorem filter_take {α : Type} (b : α → Bool) (ys : List α) {i : Nat} (h : i < ys.length) : (ys.take (i + 1)).filter b = (ys.take i).filter b ++ (if b ys[i] = true then [ys[i]] else []) := by
  rw [List.take_succ, List.getElem?_eq_getElem h, List.filter_append]
  congr 1
  by_cases hb : b ys[i] = true
  · rw [if_pos hb]
    simp [hb]
  · rw [if_neg hb]
    simp [hb]
/-- at one state -/
theorem lcAt {α : Type} {wi : TI} {g : TG} {vs : List Nat} {σ : L2.St} {H G : Hp} (k : Ok σ H G ρ) (ys : List α) (enc : α → D) (b : α → Bool) (f : α → D) (hs : ∀ R : It → Hp → Prop, (∀ J H1 G1, Px H G H1 G1 → Yl J (ys.map enc) H1 G1 → R J H1) → wi σ H R)
    (hb : ∀ y, y ∈ ys → BndC g vs ρ (enc y) fun ρ2 => EvT tt ρ2 (b y) ∧ (b y = true → EvE te ρ2 (f y))) (hl : ys.length ≤ 50000) (Q : VK) (q : ∀ a o H' G', Px H G H' G' → H a = Option.none → H' a = some o → G' a = Option.none → (mlist ((ys.filter b).map f)).P G' a o → Q (.ref a) H') : tLc wi g tt te vs σ H Q :=
  hs _ fun J H1 G1 x1 yl Dl hD => by
    have hDH : H Dl = Option.none := x1.h.free hD
    refine ⟨fun i m H' => m = ys.length - i ∧ i ≤ ys.length ∧ ∃ G' acc, Px H G H' G' ∧ Same H1 H' ∧ Same G1 G' ∧ G' Dl = Option.none ∧ H' Dl = some (.lst acc) ∧ RpL G' acc (((ys.take i).filter b).map f), ⟨ys.length, by simp, Nat.zero_le _, G1, [], x1.trans (Px.new x1.s hD), same_new hD, Same.refl G1, x1.s.free hD, upd_same, by simp; exact .nil⟩, ?_⟩
    rintro i m H' ⟨rfl, hi, G', acc, x', h1', g1', gD, hDl, racc⟩
    by_cases hlt : i < ys.length
    · refine .inr ⟨yl.go i H' h1' (by rw [List.length_map]; exact hlt), fun H2 => ∃ G2 acc2, Px H G H2 G2 ∧ Same H1 H2 ∧ Same G1 G2 ∧ G2 Dl = Option.none ∧ H2 Dl = some (.lst acc2) ∧ RpL G2 acc2 (((ys.take (i + 1)).filter b).map f), fun H2 hN => ⟨ys.length - (i + 1), by omega, rfl, hlt, hN⟩, fun x H'' hy => ?_⟩
      have hget : ys[i]? = some ys[i] := List.getElem?_eq_getElem hlt
      obtain ⟨G3, x3, r3⟩ := yl.yld i H' x H'' (enc ys[i]) h1' (by rw [List.getElem?_map, hget]; rfl) hy G' g1' x'.s
      have x13 := x'.trans x3
      have keepD : ∀ {Ha Ga Hb Gb : Hp}, Px Ha Ga Hb Gb → Ga Dl = Option.none → Ha Dl = some (.lst acc) → Gb Dl = Option.none := fun {Ha Ga Hb Gb} p g1 h1 => by
        cases e : Gb Dl with
        | none => rfl
        | some u =>
          rcases p.n Dl g1 (by rw [e]; exact fun z => nomatch z) with z | ⟨y, z, tt⟩
          · rw [h1] at z
            cases z
          · have e1 := p.s _ _ z
            rw [p.h _ _ h1] at e1
            rw [← Option.some.inj e1] at tt
            exact absurd tt isT_lst
      have gD3 := keepD x3 gD hDl
      have hD3 := x3.h _ _ hDl
      refine hb ys[i] (List.getElem_mem hlt) σ H'' G3 (k.px x13) x r3 _ fun σ2 ρ2 hw k2 hp => ⟨hw, hp.1 σ2 H'' G3 k2 _ fun H4 G4 x4 => ?_⟩
      have gD4 := keepD x4 gD3 hD3
      have hD4 := x4.h _ _ hD3
      cases hby : b ys[i] with
      | false =>
        rw [if_neg Bool.false_ne_true]
        refine ⟨G4, acc, x13.trans x4, (h1'.trans x3.h).trans x4.h, (g1'.trans x3.g).trans x4.g, gD4, hD4, ?_⟩
        rw [filter_take b ys hlt, if_neg (by rw [hby]; exact Bool.false_ne_true), List.append_nil]
        exact (racc.mono x3.g).mono x4.g
      | true =>
        rw [if_pos rfl]
        refine hp.2 hby σ2 H4 G4 (k2.px x4) _ fun v H5 G5 x5 r5 => ?_
        have gD5 := keepD x5 gD4 hD4
        have hD5 := x5.h _ _ hD4
        have x15 := (x13.trans x4).trans x5
        refine ⟨acc, hD5, ?_, G5, acc ++ [v], ⟨fun a o e => ?_, x15.g, fun a o e => ?_, x15.n⟩, ?_, ((g1'.trans x3.g).trans x4.g).trans x5.g, gD5, upd_same, ?_⟩
        · rw [racc.len, List.length_map]
          refine Nat.lt_of_le_of_lt (List.length_filter_le _ _) (Nat.lt_of_le_of_lt (List.length_take_le' ..) (Nat.lt_of_le_of_lt hl (by decide)))
        · rw [upd_ne (ne_of_none e hDH)]
          exact x15.h a o e
        · rw [upd_ne (ne_of_none e gD5)]
          exact x15.s a o e
        · intro a o e
          rw [upd_ne (ne_of_none e hD)]
          exact x5.h _ _ (x4.h _ _ (x3.h _ _ (h1' _ _ e)))
        · rw [filter_take b ys hlt, if_pos hby, List.map_append]
          exact (((racc.mono x3.g).mono x4.g).mono x5.g).app (.one r5)
    · have e : i = ys.length := by omega
      subst e
      rw [List.take_length] at racc
      exact .inl ⟨yl.stop _ H' h1' (by rw [List.length_map]; exact Nat.le_refl _), q Dl _ H' G' x' hDH hDl gD ⟨acc, rfl, racc⟩⟩
theorem f_lc {α : Type} {wi : TI} {g : TG} {vs : List Nat} (ys : List α) (enc : α → D) (b : α → Bool) (f : α → D) (hs : Iter wi ρ (ys.map enc))
    (hb : ∀ y, y ∈ ys → BndC g vs ρ (enc y) fun ρ2 => EvT tt ρ2 (b y) ∧ (b y = true → EvE te ρ2 (f y))) (hl : ys.length ≤ 50000) : EvF (tLc wi g tt te vs) ρ (mlist ((ys.filter b).map f)) := fun σ H G k Q q => lcAt k ys enc b f (hs σ H G k) hb hl Q q
/-- what is walked is told by a property -/
def IterP (wi : TI) (ρ : Rho) (Pxs : List D → Prop) : Prop := ∀ σ H G, Ok σ H G ρ → ∀ R : It → Hp → Prop, (∀ xs J H1 G1, Pxs xs → Px H G H1 G1 → Yl J xs H1 G1 → R J H1) → wi σ H R
theorem i_seqP {Pxs : List D → Prop} (h : EvP te ρ fun r => ∃ xs, r = .list xs ∧ Pxs xs) : IterP (iSeq K te) ρ Pxs := fun σ H G k R q => h σ H G k _ fun v d H1 G1 x1 r1 ⟨xs, e, hx⟩ => by
  subst e
  obtain ⟨a, vs, rfl, h1, r⟩ := r1.lstV
  exact ⟨a, rfl, .inl ⟨⟨vs, SqL.of (x1.s _ _ h1)⟩, q xs _ H1 G1 hx x1 ((yl_list h1 r).mono x1.s)⟩⟩
theorem i_seqB (h : EvB te ρ (.list xs)) : Iter (iSeq K te) ρ xs := fun σ H G k R q => h σ H G k _ fun v H1 G1 x1 r1 => by
  obtain ⟨a, vs, rfl, h1, r⟩ := r1.lstV x1.s
  exact ⟨a, rfl, .inl ⟨⟨vs, SqL.of h1⟩, q _ H1 G1 x1 (yl_list h1 r)⟩⟩
theorem f_lcP {α : Type} {wi : TI} {g : TG} {vs : List Nat} {Φ : List α → Prop} (enc : α → D) (b : α → Bool) (f : α → D) (hs : IterP wi ρ fun xs => ∃ ys, xs = ys.map enc ∧ Φ ys) (hb : ∀ ys y, Φ ys → y ∈ ys → BndC g vs ρ (enc y) fun ρ2 => EvT tt ρ2 (b y) ∧ (b y = true → EvE te ρ2 (f y)))
    (hl : ∀ ys, Φ ys → ys.length ≤ 50000) : EvP (tLc wi g tt te vs) ρ fun r => ∃ ys, Φ ys ∧ r = .list ((ys.filter b).map f) := fun σ H G k Q q =>
  hs σ H G k _ fun xs J H1 G1 ⟨ys, e, hy⟩ x1 yl => by
    subst e
    exact lcAt (wi := fun _ _ R => R J H1) (σ := σ) (H := H) k ys enc b f (fun R hR => hR J H1 G1 x1 yl) (fun y hm => hb ys y hy hm) (hl ys hy) Q fun a o H2 G2 x2 na ho hg ⟨us, eo, r⟩ => by
      subst eo
      exact q _ _ H2 _ (x2.put na ho hg) (.lst upd_same (r.mono (same_new hg))) ⟨ys, hy, rfl⟩
end
end Lw
set_option Elab.async false
set_option linter.all false
set_option maxRecDepth 100000
namespace Lw
open PySem PySem.Spec PyProof.Rows L2
/-! ### promises -/
/-- from data to data: i runs through the cases -/
def spI {ι : Type} (pre : ι → Prop) (args : ι → List D) (res : ι → D → Prop) : Sp := fun vs H Q _ => ∃ (G : Hp) (i : ι), Same G H ∧ RpL G vs (args i) ∧ pre i ∧ ∀ v r H' G', Px H G H' G' → Rp G' v r → res i r → Q v H'
/-- a new object comes back -/
def spO {ι : Type} (pre : ι → Prop) (args : ι → List D) (own : ι → Own) : Sp := fun vs H Q _ => ∃ (G : Hp) (i : ι), Same G H ∧ RpL G vs (args i) ∧ pre i ∧ ∀ a o H' G', Px H G H' G' → H a = Option.none → H' a = some o → G' a = Option.none → (own i).P G' a o → Q (.ref a) H'
/-- the first argument is the source of draws -/
def spT {ι : Type} (pre : ι → Prop) (cost : ι → Nat) (args : ι → List D) (res : ι → D → Prop) : Sp := fun vs H Q _ => ∃ (G : Hp) (i : ι) (a : Addr) (ws : List V) (b : Nat), vs = .ref a :: ws ∧ Ok [some (.ref a)] H G [some (.o (tin a (b + cost i)))] ∧ RpL G ws (args i) ∧ pre i ∧
  ∀ v r H' G', Te [some (.ref a)] [some (.o (tin a (b + cost i)))] H G [some (.o (tin a b))] H' G' → Ok [some (.ref a)] H' G' [some (.o (tin a b))] → Rp G' v r → res i r → Q v H'
def startR (n : Nat) (ds : List D) : Rho := ds.map (fun d => some (Sl.d d)) ++ List.replicate (n - ds.length) none
section
variable {K : PySem.W.Frag} {ρ : Rho} {te ta tb tc tl : TE} {tt tu : TT} {ts tr : TA} {d x y z : D} {xs ys ds : List D} {w : Own} {t u : TS} {P : De}
theorem startR_at {n : Nat} {i : Nat} {s : Sl} (h : (startR n ds)[i]? = some (some s)) : ∃ d, ds[i]? = some d ∧ s = .d d := by
  unfold startR at h
  by_cases hi : i < ds.length
  · rw [List.getElem?_append_left (by rw [List.length_map]; exact hi), List.getElem?_map, List.getElem?_eq_getElem hi] at h
    exact ⟨ds[i], List.getElem?_eq_getElem hi, (Option.some.inj (Option.some.inj h)).symm⟩
  · rw [List.getElem?_append_right (by rw [List.length_map]; omega), List.getElem?_replicate] at h
    split at h
    · cases h
    · cases h
theorem ok_start {N : List Str} {vs : List V} {H G : Hp} (s : Same G H) (r : RpL G vs ds) : Ok (start N vs) H G (startR N.length ds) := by
  refine ⟨s, ?_, fun i sl h => ?_, fun i j w w' a e1 _ _ _ => ?_⟩
  · unfold L2.start startR
    simp [r.len]
  · obtain ⟨d, h1, rfl⟩ := startR_at h
    obtain ⟨v, h2, h3⟩ := r.get h1
    refine ⟨v, ?_, h3⟩
    unfold L2.start
    rw [List.getElem?_append_left (by rw [List.length_map]; exact (List.getElem?_eq_some_iff.mp h2).1), List.getElem?_map, h2]
    rfl
  · obtain ⟨d, _, e⟩ := startR_at e1
    cases e
theorem start_nomut {n : Nat} {σ : L2.St} {a : Addr} : ¬ mutAt σ (startR n ds) a := fun ⟨i, w, h, _⟩ => by
  obtain ⟨d, _, e⟩ := startR_at h
  cases e
theorem tr_start {n : Nat} {σ σ' : L2.St} {ρ' : Rho} {H G H' G' : Hp} (t : Tr σ (startR n ds) H G σ' ρ' H' G') (s : Same G' H') : Px H G H' G' :=
  ⟨fun a o e => t.keep a o e start_nomut, t.up, s, fun a e q => (t.new a e q).elim .inl fun m => m.elim (fun m => absurd m start_nomut) .inr⟩
/-- a def's body keeps its promise: data to data -/
theorem fn_I {ι : Type} {pre : ι → Prop} {args : ι → List D} {res : ι → D → Prop} {N : List Str} (h : ∀ i, pre i → RunS t (startR N.length (args i)) { nx := fun _ => res i .none, rt := fun _ => res i }) :
    ∀ vs H Q E, spI pre args res vs H Q E → t { nx := fun _ H' => Q .non H', rt := Q } (start N vs) H := fun vs H Q E ⟨G, i, s, r, hp, q⟩ =>
  h i hp (start N vs) H G (ok_start s r) _ (fun σ' ρ' H' G' t' k' hn => q .non .none H' G' (tr_start t' k'.sub) .non hn) (fun v d σ' ρ' H' G' t' k' r' hr => q v d H' G' (tr_start t' k'.sub) r' hr) (fun _ _ _ _ _ _ z => z) fun _ _ _ _ _ _ z => z
theorem len_I {ι : Type} {pre : ι → Prop} {args : ι → List D} {res : ι → D → Prop} {n : Nat} (h : ∀ i, (args i).length = n) : ∀ vs H Q E, spI pre args res vs H Q E → vs.length = n := fun vs H Q E ⟨G, i, s, r, _⟩ => by rw [r.len, h i]
/-- .. hands back what a slot owns -/
theorem fn_O {ι : Type} {pre : ι → Prop} {args : ι → List D} {own : ι → Own} {N : List Str} (h : ∀ i, pre i → EvF te (startR N.length (args i)) (own i)) :
    ∀ vs H Q E, spO pre args own vs H Q E → tRet te { nx := fun _ H' => Q .non H', rt := Q } (start N vs) H := fun vs H Q E ⟨G, i, s, r, hp, q⟩ =>
  h i hp (start N vs) H G (ok_start s r) Q fun a o H' G' x n ho hg hw => q a o H' G' x n ho hg hw
theorem len_O {ι : Type} {pre : ι → Prop} {args : ι → List D} {own : ι → Own} {n : Nat} (h : ∀ i, (args i).length = n) : ∀ vs H Q E, spO pre args own vs H Q E → vs.length = n := fun vs H Q E ⟨G, i, s, r, _⟩ => by rw [r.len, h i]
/-- .. draws -/
theorem ok_tin {N : List Str} {ws : List V} {H G : Hp} {a : Addr} {b : Nat} (k : Ok [some (.ref a)] H G [some (.o (tin a b))]) (r : RpL G ws ds) : Ok (start N (.ref a :: ws)) H G (some (.o (tin a b)) :: startR (N.length - 1) ds) := by
  obtain ⟨a', o, h1, h2, h3, h4⟩ := k.o (i := 0) rfl
  have ea : a' = a := (V.ref.inj (Option.some.inj (Option.some.inj h1))).symm
  subst ea
  have e0 : start N (.ref a' :: ws) = some (.ref a') :: (ws.map some ++ List.replicate (N.length - 1 - ws.length) none) := by
    unfold L2.start
    simp only [List.map_cons, List.length_cons, List.cons_append]
    rw [Nat.sub_sub, Nat.add_comm 1]
  rw [e0]
  refine ⟨k.sub, ?_, fun i sl h => ?_, fun i j w w' c e1 e2 _ _ => ?_⟩
  · unfold startR
    simp [r.len]
  · cases i with
    | zero =>
      have := Option.some.inj (Option.some.inj h)
      subst this
      exact ⟨_, rfl, a', o, rfl, h2, h3, h4⟩
    | succ i =>
      obtain ⟨d, g1, rfl⟩ := startR_at h
      obtain ⟨v, g2, g3⟩ := r.get g1
      refine ⟨v, ?_, g3⟩
      rw [List.getElem?_cons_succ, List.getElem?_append_left (by rw [List.length_map]; exact (List.getElem?_eq_some_iff.mp g2).1), List.getElem?_map, g2]
      rfl
  · cases i with
    | zero =>
      cases j with
      | zero => rfl
      | succ j =>
        obtain ⟨d, _, e⟩ := startR_at e2
        cases e
    | succ i =>
      obtain ⟨d, _, e⟩ := startR_at e1
      cases e
theorem fn_T {ι : Type} {pre : ι → Prop} {cost : ι → Nat} {args : ι → List D} {res : ι → D → Prop} {N : List Str}
    (h : ∀ i a b, pre i → RunS t (some (.o (tin a (b + cost i))) :: startR (N.length - 1) (args i)) { nx := fun ρ' => ρ'[0]? = some (some (.o (tin a b))) ∧ res i .none, rt := fun ρ' d => ρ'[0]? = some (some (.o (tin a b))) ∧ res i d }) :
    ∀ vs H Q E, spT pre cost args res vs H Q E → t { nx := fun _ H' => Q .non H', rt := Q } (start N vs) H := fun vs H Q E ⟨G, i, a, ws, b, ev, k, r, hp, q⟩ => by
  subst ev
  have nm : ∀ {c : Addr}, mutAt (start N (.ref a :: ws)) (some (.o (tin a (b + cost i))) :: startR (N.length - 1) (args i)) c ↔ c = a := fun {c} => by
    constructor
    · rintro ⟨j, w, h1, h2⟩
      cases j with
      | zero => exact (V.ref.inj (Option.some.inj (Option.some.inj h2))).symm
      | succ j =>
        obtain ⟨d, _, e⟩ := startR_at h1
        cases e
    · rintro rfl
      exact ⟨0, _, rfl, rfl⟩
  have nm1 : ∀ {c : Addr}, mutAt [some (.ref a)] [some (.o (tin a (b + cost i)))] c ↔ c = a := fun {c} => by
    constructor
    · rintro ⟨j, w, h1, h2⟩
      cases j with
      | zero => exact (V.ref.inj (Option.some.inj (Option.some.inj h2))).symm
      | succ j => cases h1
    · rintro rfl
      exact ⟨0, _, rfl, rfl⟩
  have fin : ∀ {σ' : L2.St} {ρ' : Rho} {H' G' : Hp}, Tr (start N (.ref a :: ws)) (some (.o (tin a (b + cost i))) :: startR (N.length - 1) (args i)) H G σ' ρ' H' G' → Ok σ' H' G' ρ' → ρ'[0]? = some (some (.o (tin a b))) →
      Te [some (.ref a)] [some (.o (tin a (b + cost i)))] H G [some (.o (tin a b))] H' G' ∧ Ok [some (.ref a)] H' G' [some (.o (tin a b))] := fun {σ' ρ' H' G'} t' k' e => by
    obtain ⟨c, o, h1, h2, h3, h4⟩ := k'.o e
    have ec : c = a := h4.1
    subst ec
    refine ⟨⟨fun x u hx n => t'.keep x u hx fun m => n (nm1.mpr (nm.mp m)), t'.there, t'.up, fun x hx n => (t'.new x hx n).imp id (.imp (fun m => nm1.mpr (nm.mp m)) id), fun j w hj => ?_⟩, ⟨k'.sub, rfl, fun j s hj => ?_, fun i j w w' x e1 e2 _ _ => ?_⟩⟩
    · cases j with
      | zero => exact ⟨_, rfl⟩
      | succ j => cases hj
    · cases j with
      | zero =>
        have := Option.some.inj (Option.some.inj hj)
        subst this
        exact ⟨_, rfl, c, o, rfl, h2, h3, h4⟩
      | succ j => cases hj
    · cases i with
      | zero =>
        cases j with
        | zero => rfl
        | succ j => cases e2
      | succ i => cases e1
  refine h i a b hp (start N (.ref a :: ws)) H G (ok_tin k r) _ (fun σ' ρ' H' G' t' k' hn => ?_) (fun v d σ' ρ' H' G' t' k' r' hr => ?_) (fun _ _ _ _ _ _ z => z) fun _ _ _ _ _ _ z => z
  · obtain ⟨f1, f2⟩ := fin t' k' hn.1
    exact q .non .none H' G' f1 f2 .non hn.2
  · obtain ⟨f1, f2⟩ := fin t' k' hr.1
    exact q v d H' G' f1 f2 r' hr.2
theorem len_T {ι : Type} {pre : ι → Prop} {cost : ι → Nat} {args : ι → List D} {res : ι → D → Prop} {n : Nat} (h : ∀ i, (args i).length + 1 = n) : ∀ vs H Q E, spT pre cost args res vs H Q E → vs.length = n := fun vs H Q E ⟨G, i, a, ws, b, e, k, r, _⟩ => by rw [e, List.length_cons, r.len, h i]

/-! ### calls -/
theorem p_call {ι : Type} {pre : ι → Prop} {args : ι → List D} {res : ι → D → Prop} {E : XK} (i : ι) (h : EvS ts ρ (args i)) (hp : pre i) : EvP (tCall (spI pre args res) [] E ts) ρ (res i) := fun σ H G k Q q =>
  h σ H G k _ fun vs H1 G1 x1 r1 => ⟨G1, i, x1.s, by rw [List.append_nil]; exact r1, hp, fun v r H2 G2 x2 r2 hr => q v r H2 G2 (x1.trans x2) r2 hr⟩
theorem e_call {ι : Type} {pre : ι → Prop} {args : ι → List D} {res : ι → D → Prop} {E : XK} (i : ι) (h : EvS ts ρ (args i)) (hp : pre i) (hz : ∀ r, res i r → r = z) : EvE (tCall (spI pre args res) [] E ts) ρ z := (EvP.imp (p_call i h hp) hz).e
/-- borrowed arguments, a flat answer -/
def flatD : D → Bool
  | .list _ => false
  | .tuple _ => false
  | .dict _ => false
  | _ => true
theorem Rp.flat {G G' : Hp} {v : V} (f : flatD z = true) (h : Rp G v z) : Rp G' v z := by
  cases h with
  | non => exact .non
  | bl b => exact .bl b
  | int i => exact .int i
  | str s => exact .str s
  | lst _ _ => cases f
  | tup _ _ _ => cases f
  | pr _ _ _ => cases f
theorem e_callB {ι : Type} {pre : ι → Prop} {args : ι → List D} {res : ι → D → Prop} {E : XK} (i : ι) (h : EvA ts ρ (args i)) (hp : pre i) (hz : ∀ r, res i r → r = z) (f : flatD z = true) : EvE (tCall (spI pre args res) [] E ts) ρ z := fun σ H G k Q q =>
  h σ H G k _ fun vs H1 G1 x1 r1 => ⟨H1, i, Same.refl H1, by rw [List.append_nil]; exact r1.rp x1.s, hp, fun v r H2 G2 x2 r2 hr => by
    have e := hz r hr
    subst e
    exact q v H2 G1 (x1.trans ⟨x2.h, Same.refl G1, x1.s.trans x2.h, fun a e n => absurd e n⟩) (r2.flat f)⟩
theorem f_call {ι : Type} {pre : ι → Prop} {args : ι → List D} {own : ι → Own} {E : XK} (i : ι) (h : EvS ts ρ (args i)) (hp : pre i) : EvF (tCall (spO pre args own) [] E ts) ρ (own i) := fun σ H G k Q q =>
  h σ H G k _ fun vs H1 G1 x1 r1 => ⟨G1, i, x1.s, by rw [List.append_nil]; exact r1, hp, fun a o H2 G2 x2 n2 h2 g2 w2 => q a o H2 G2 (x1.trans x2) (x1.h.free n2) h2 g2 w2⟩
theorem z_callT {ι : Type} {pre : ι → Prop} {cost : ι → Nat} {args : ι → List D} {res : ι → D → Prop} {E : XK} {Pz : Rho → D → Prop} {j : Nat} {s : Addr} (i : ι) (b : Nat) (hj : ρ[j]? = some (some (.o (tin s (b + cost i))))) (h : EvS ts ρ (args i)) (hp : pre i)
    (hz : ∀ r, res i r → Pz (ρ.set j (some (.o (tin s b)))) r) : EvZ (tCall (spT pre cost args res) [] E (tCons (tVar j) ts)) ρ Pz := fun σ H G k Q q => by
  obtain ⟨a, o, h1, h2, h3, h4⟩ := k.o hj
  have ea : a = s := h4.1
  subst ea
  refine ⟨.ref a, h1, h σ H G k _ fun vs H1 G1 x1 r1 => ?_⟩
  have k1 := k.px x1
  obtain ⟨a', o', g1, g2, g3, g4⟩ := k1.o hj
  have ea : a' = a := g4.1
  subst ea
  refine ⟨G1, i, a', vs, b, by rw [List.append_nil], ⟨k1.sub, rfl, fun l sl hl => ?_, fun l m w w' c e1 e2 _ _ => ?_⟩, r1, hp, fun v r H2 G2 t2 k2 r2 hr => ?_⟩
  · cases l with
    | zero =>
      have := Option.some.inj (Option.some.inj hl)
      subst this
      exact ⟨_, rfl, a', o', rfl, g2, g3, g4⟩
    | succ l => cases hl
  · cases l with
    | zero =>
      cases m with
      | zero => rfl
      | succ m => cases e2
    | succ l => cases e1
  · have hjl : j < ρ.length := (List.getElem?_eq_some_iff.mp hj).1
    have nm1 : ∀ {c : Addr}, mutAt [some (.ref a')] [some (.o (tin a' (b + cost i)))] c → c = a' := fun {c} m => by
      obtain ⟨l, w, e1, e2⟩ := m
      cases l with
      | zero => exact (V.ref.inj (Option.some.inj (Option.some.inj e2))).symm
      | succ l => cases e1
    have own' : mutAt σ ρ a' := ⟨j, _, hj, h1⟩
    have T : Te σ ρ H1 G1 (ρ.set j (some (.o (tin a' b)))) H2 G2 := ⟨fun c u hc n => t2.keep c u hc fun m => n (by rw [nm1 m]; exact own'), t2.there, t2.up, fun c hc n => (t2.new c hc n).imp id (.imp (fun m => by rw [nm1 m]; exact own') id), fun l w hl => by
      by_cases e : j = l
      · subst e
        exact ⟨_, hj⟩
      · rw [List.getElem?_set_ne e] at hl
        exact ⟨w, hl⟩⟩
    obtain ⟨c, o2, f1, f2, f3, f4⟩ := k2.o (i := 0) rfl
    have ec : c = a' := f4.1
    subst ec
    have K2 : Ok σ H2 G2 (ρ.set j (some (.o (tin c b)))) := by
      refine ⟨k2.sub, by rw [List.length_set, k1.len], fun l sl hl => ?_, fun l m w w' x e1 e2 e3 e4 => ?_⟩
      · by_cases e : j = l
        · subst e
          rw [List.getElem?_set_self hjl] at hl
          have := Option.some.inj (Option.some.inj hl)
          subst this
          exact ⟨_, h1, c, o2, rfl, f2, f3, f4⟩
        · rw [List.getElem?_set_ne e] at hl
          obtain ⟨v', g5, g6⟩ := k1.at_ l sl hl
          refine ⟨v', g5, ?_⟩
          cases sl with
          | d y => exact Rp.mono t2.up g6
          | o w =>
            obtain ⟨x, u, rfl, q1, q2, q3⟩ := g6
            have nx : x ≠ c := fun z => by
              subst z
              exact e (k1.sep j l _ w x hj hl h1 g5)
            have q4 := t2.keep x u q1 fun m => nx (nm1 m)
            refine ⟨x, u, rfl, q4, ?_, w.mono t2.up q3⟩
            cases e3 : G2 x with
            | none => rfl
            | some u2 =>
              rcases t2.new x q2 (by rw [e3]; exact fun z => nomatch z) with z | z | ⟨y, z, tt⟩
              · rw [q1] at z; cases z
              · exact absurd (nm1 z) nx
              · have e1 := k2.sub _ _ z
                rw [q4] at e1
                rw [Option.some.inj e1] at q3
                exact absurd tt (w.nt q3)
      · have key : ∀ {l : Nat} {w : Own}, (ρ.set j (some (.o (tin c b))))[l]? = some (some (.o w)) → ∃ w', ρ[l]? = some (some (.o w')) := fun {l w} hl => by
          by_cases e : j = l
          · subst e
            exact ⟨_, hj⟩
          · rw [List.getElem?_set_ne e] at hl
            exact ⟨w, hl⟩
        obtain ⟨w1, e1⟩ := key e1
        obtain ⟨w2, e2⟩ := key e2
        exact k1.sep l m w1 w2 x e1 e2 e3 e4
    exact q v r _ H2 G2 ((Te.of x1).trans T) K2 r2 (hz r hr)
end
end Lw
set_option Elab.async false
set_option linter.all false
set_option maxRecDepth 100000
set_option maxHeartbeats 4000000
namespace Lw
open PySem PySem.Spec PyProof.Rows L2
abbrev rAddI : R2 := rI0 fun i j => .int (i + j)
abbrev rSubI : R2 := rI0 fun i j => .int (i - j)
abbrev rMulI : R2 := rI CMul fun i j => .int (i * j)
abbrev rModI : R2 := rI (fun _ j => 0 < j) fun i j => .int (i % j)
abbrev rDivI : R2 := rI CDiv fun i j => .int (i / j)
abbrev rPowI : R2 := rI CPow fun i j => .int (i ^ j.toNat)
abbrev rLtI : R2 := rI0 fun i j => .bl (decide (i < j))
abbrev rLeI : R2 := rI0 fun i j => .bl (decide (i ≤ j))
abbrev rGtI : R2 := rI0 fun i j => .bl (decide (j < i))
abbrev rGeI : R2 := rI0 fun i j => .bl (decide (j ≤ i))
section
variable {X : Cx} {tg : Expr}
/-- a list or a tuple is walked -/
theorem pi_seq {l : Expr} {tl : TE} (hl : PE X l tl) : PI X tg l (iSeq X.K tl) := by
  refine ⟨fun pins s σ H R I h => thn (hl.run pins s σ H _ I h) fun v s1 ⟨x, H1, I1, r1, a, e, q⟩ => ?_⟩
  subst e
  obtain rfl : v = Value.ref a := r1
  have fp : ∀ b ∈ [s1.heap.objs.size], FpOk X pins H1 b := fun b hb => by
    obtain rfl : b = s1.heap.objs.size := by simpa using hb
    exact I1.fpOk (Nat.le_refl _) (I1.hok.fresh (Nat.le_refl _))
  rcases q with ⟨⟨xs, hx⟩, q⟩ | ⟨⟨xs, hx⟩, q⟩
  · obtain ⟨its, rv, p, _⟩ := I1.list hx
    exact wpAny_pyIter_list p.isList ⟨_, [s1.heap.objs.size], _, _, H1, rfl, I1.kept (t' := s1.toks) fun _ _ e => Heap.get?_push_of_some _ e, turn_list a _, ⟨_, Heap.get?_push_size _ rfl, rfl, rfl⟩, fp, q⟩
  · obtain ⟨its, rv, p, _⟩ := I1.tuple hx
    exact wpAny_pyIter_tuple (show s1.heap.IsTuple a its.toArray from p) ⟨_, [s1.heap.objs.size], _, _, H1, rfl, I1.kept (t' := s1.toks) fun _ _ e => Heap.get?_push_of_some _ e, turn_tuple a _, ⟨_, Heap.get?_push_size _ rfl, rfl, rfl⟩, fp, q⟩

/-! ### sorted, over whatever can be collected -/
/-- what collect makes of the thing at a -/
def Coll (X : Cx) (s : Shared) (a : Addr) (vs : List Value) : Prop := ∀ (A : Around), A.handled = none → ∀ (E : Value → Shared → Prop) (Q : List Value → Shared → Prop), (∀ (h' : Heap) (tk : Nat), (∀ b o, s.heap.get? b = some o → h'.get? b = some o) → Q vs { s with heap := h', toks := tk }) → wpAny (model X.prog X.w) A (collect (.ref a)) Q E s
theorem coll_list {pins : List (Addr × Obj)} {σ : L2.St} {H : Hp} {s : Shared} {a : Addr} {xs : List V} (I : Inv X pins σ H s) (h : SqL X.K H a xs) : ∃ its, Vals xs its ∧ Coll X s a its := by
  obtain ⟨its, r, pl, hz⟩ := I.list h
  obtain ⟨o, ho, hc, n, hd⟩ := pl.isList
  refine ⟨its, r, fun A _ E Q q => ?_⟩
  have hl := r.length
  refine wpAny_collect_seq a (.inl rfl) ho hc hd (fun h' k => ?_) (by rw [List.size_toArray]; omega)
  have e : its.toArray.toList = its := by simp
  rw [e]
  exact q h' s.toks k
theorem coll_tup {pins : List (Addr × Obj)} {σ : L2.St} {H : Hp} {s : Shared} {a : Addr} {xs : List V} (I : Inv X pins σ H s) (h : SqT X.K H a xs) : ∃ its, Vals xs its ∧ Coll X s a its := by
  obtain ⟨its, r, ⟨o, ho, hc, n, hd⟩, hz⟩ := I.tuple h
  refine ⟨its, r, fun A _ E Q q => ?_⟩
  have hl := r.length
  refine wpAny_collect_seq a (.inr rfl) ho hc hd (fun h' k => ?_) (by rw [List.size_toArray]; omega)
  have e : its.toArray.toList = its := by simp
  rw [e]
  exact q h' s.toks k
/-- sorted(x), ints -/
theorem sorted_ints {pins : List (Addr × Obj)} {σ : L2.St} {H : Hp} {s : Shared} {a : Addr} {vs : List Value} {ns : List Int} {Q : VK} {E : Value → Shared → Prop} (I : Inv X pins σ H s) (hh : X.A.handled = none) (hc : Coll X s a vs) (hI : IntsAre vs ns) (h64 : ns.length < 64)
    (q : ∀ (ys : List Int) (p : Addr), ys.Perm ns → ys.Pairwise (· ≤ ·) → H p = none → Q (.ref p) (upd H p (.lst (ys.map V.int)))) : wpAny (model X.prog X.w) X.A (call (.builtin "sorted") [.ref a]) (EP X pins σ Q) E s := by
  have hvl : vs.length = ns.length := IntsAre.length hI
  refine Calls.call_function_entry kind_sorted plain_sorted entry_sorted (args_sorted1 _) ?_
  unfold Builtin.«sorted»
  refine wpAny_bind (m := checkCount "sorted" 1 1 _) (wpAny_pure ?_)
  refine wpAny_bind (hc X.A.in1 hh _ _ fun h' tk k => ?_)
  have I1 : Inv X pins σ H { s with heap := h', toks := tk } := I.kept k
  refine wpAny_bind (wpAny_newList ?_ (by rw [hvl, sizeLine_eq]; omega))
  have hoL : (h'.push (seqObj "list" vs.toArray 0)).get? h'.objs.size = some (seqObj "list" vs.toArray 0) := Heap.get?_push_size _ rfl
  show wpAny _ _ _ _ _ { s with heap := h'.push (seqObj "list" vs.toArray 0), toks := tk }
  refine wpAny_bind (wpAny_holding (wpAny_call_entry slot_list_sort ⟨_, hoL, rfl⟩ entry_list_sort (list_sort_tree (s := { s with heap := h'.push (seqObj "list" vs.toArray 0), toks := tk }) hoL hI (by rw [hvl]; exact h64) fun out ys g1 g2 g3 => ⟨_, rfl, ?_⟩) (args_list_sort _)))
  obtain ⟨e', he'⟩ := sortedHeap_at (vs := vs) (out := out) hoL
  have hlen : (ys.map V.int).length ≤ sizeLine := by
    rw [List.length_map, g2.length_eq, sizeLine_eq]
    omega
  refine wpAny_pure ⟨_, rfl, .ref h'.objs.size, _, I1.laid (t' := tk) (a := h'.objs.size) (o := .lst (ys.map V.int)) (fun b u e => ?_) (Nat.le_refl _) ⟨hlen, out.toList, e', vals_of_ints g1, by rw [Array.toArray_toList]; exact he'⟩, rfl, q ys _ g2 g3 (I1.hok.fresh (Nat.le_refl _))⟩
  have hb : b < h'.objs.size := Heap.lt_size e
  rw [sortedHeap_old (Nat.ne_of_lt hb) (by rw [size_push']; exact Nat.lt_succ_of_lt hb)]
  exact Heap.get?_push_of_some _ e
/-- sorted(x), tuples of d ints below B -/
theorem sorted_tups {pins : List (Addr × Obj)} {σ : L2.St} {H : Hp} {s : Shared} {a : Addr} {xs : List V} {vs : List Value} {d : Nat} {B : Int} {Q : VK} {E : Value → Shared → Prop} (I : Inv X pins σ H s) (hh : X.A.handled = none) (hc : Coll X s a vs) (rv : Vals xs vs) (h64 : xs.length < 64) (hd : 1 ≤ d)
    (hx : ∀ x ∈ xs, ∃ ns, TupI X.K H x ns ∧ ns.length = d ∧ TS.Bd B ns)
    (q : ∀ (ys : List V) (p : Addr), ys.Perm xs → H p = none → Q (.ref p) (upd H p (.lst ys))) : wpAny (model X.prog X.w) X.A (call (.builtin "sorted") [.ref a]) (EP X pins σ Q) E s := by
  have hvl : vs.length = xs.length := (Paired.length rv).symm
  obtain ⟨e1, e2⟩ := bkV_refs rv fun x m => by
    obtain ⟨ns, ⟨t, e, _⟩, _⟩ := hx x m
    exact ⟨t, e⟩
  refine Calls.call_function_entry kind_sorted plain_sorted entry_sorted (args_sorted1 _) ?_
  unfold Builtin.«sorted»
  refine wpAny_bind (m := checkCount "sorted" 1 1 _) (wpAny_pure ?_)
  refine wpAny_bind (hc X.A.in1 hh _ _ fun h' tk k => ?_)
  have I1 : Inv X pins σ H { s with heap := h', toks := tk } := I.kept k
  refine wpAny_bind (wpAny_newList ?_ (by rw [hvl, sizeLine_eq]; omega))
  have hoL : (h'.push (seqObj "list" vs.toArray 0)).get? h'.objs.size = some (seqObj "list" vs.toArray 0) := Heap.get?_push_size _ rfl
  show wpAny _ _ _ _ _ { s with heap := h'.push (seqObj "list" vs.toArray 0), toks := tk }
  have I2 : Inv X pins σ H { s with heap := h'.push (seqObj "list" vs.toArray 0), toks := tk } := I1.kept (t' := tk) fun b o e => Heap.get?_push_of_some _ e
  have ok : TS.TupsOk (h'.push (seqObj "list" vs.toArray 0)) d B vs := fun v hv => by
    obtain ⟨t, rfl⟩ := e2 v hv
    have hm : V.ref t ∈ xs := by
      rw [e1]
      exact List.mem_map.mpr ⟨_, hv, rfl⟩
    obtain ⟨ns, ⟨t', e, ht⟩, hn, hb⟩ := hx _ hm
    cases e
    exact ⟨ns, tupI_raw I2 ht, hn, hb⟩
  refine wpAny_bind (wpAny_holding (wpAny_call_entry slot_list_sort ⟨_, hoL, rfl⟩ entry_list_sort (TS.sort_tups (s := { s with heap := h'.push (seqObj "list" vs.toArray 0), toks := tk }) hoL (by rw [hvl]; exact h64) hd ok (fun v => TS.code B (TS.intsOf (h'.push (seqObj "list" vs.toArray 0)) v)) (fun v hv ns t => ?_) fun out a1 a2 => ⟨_, rfl, ?_⟩) (args_list_sort _)))
  · show TS.code B (TS.intsOf (h'.push (seqObj "list" vs.toArray 0)) v) = TS.code B ns
    rw [t.ints]
  obtain ⟨e', he'⟩ := sortedHeap_at (vs := vs) (out := out) hoL
  have h3 : ∀ u ∈ out.toList, ∃ a, u = Value.ref a := fun u hu => e2 u (a1.mem_iff.mp hu)
  have hp : (out.toList.map bkV).Perm xs := by
    rw [e1]
    exact a1.map bkV
  have hlen : (out.toList.map bkV).length ≤ sizeLine := by
    rw [hp.length_eq, sizeLine_eq]
    omega
  refine wpAny_pure ⟨_, rfl, .ref h'.objs.size, _, I1.laid (t' := tk) (a := h'.objs.size) (o := .lst (out.toList.map bkV)) (fun b u e => ?_) (Nat.le_refl _) ⟨hlen, out.toList, e', bkV_vals h3, by rw [Array.toArray_toList]; exact he'⟩, rfl, q _ _ hp (I1.hok.fresh (Nat.le_refl _))⟩
  have hb : b < h'.objs.size := Heap.lt_size e
  rw [sortedHeap_old (Nat.ne_of_lt hb) (by rw [size_push']; exact Nat.lt_succ_of_lt hb)]
  exact Heap.get?_push_of_some _ e
def rSortIQ (K : PySem.W.Frag) : List V → Hp → VK → Prop := fun vs H Q => ∃ (a : Addr) (ns : List Int), vs = [V.ref a] ∧ (SqL K H a (ns.map V.int) ∨ SqT K H a (ns.map V.int)) ∧ ns.length < 64 ∧
  ∀ (ys : List Int) (p : Addr), ys.Perm ns → ys.Pairwise (· ≤ ·) → H p = none → Q (.ref p) (upd H p (.lst (ys.map V.int)))
theorem cr_sortIQ (hc : X.calm = true) : CallR X (.builtin "sorted") (rSortIQ X.K) := by
  intro pins s σ H vs us Q I r h
  obtain ⟨a, ns, rfl, hs, h64, q⟩ := h
  rw [Vals.ref1 r]
  rcases hs with hs | hs
  · obtain ⟨its, rv, hcl⟩ := coll_list I hs
    exact sorted_ints I (I.ok.hd hc) hcl (Vals.ints rv) h64 q
  · obtain ⟨its, rv, hcl⟩ := coll_tup I hs
    exact sorted_ints I (I.ok.hd hc) hcl (Vals.ints rv) h64 q
def rSortPQ (K : PySem.W.Frag) : List V → Hp → VK → Prop := fun vs H Q => ∃ (a : Addr) (xs : List V) (d : Nat) (B : Int), vs = [V.ref a] ∧ SqL K H a xs ∧ xs.length < 64 ∧ 1 ≤ d ∧ (∀ x ∈ xs, ∃ ns, TupI K H x ns ∧ ns.length = d ∧ TS.Bd B ns) ∧
  ∀ (ys : List V) (p : Addr), ys.Perm xs → H p = none → Q (.ref p) (upd H p (.lst ys))
theorem cr_sortPQ (hc : X.calm = true) : CallR X (.builtin "sorted") (rSortPQ X.K) := by
  intro pins s σ H vs us Q I r h
  obtain ⟨a, xs, d, B, rfl, hs, h64, hd, hx, q⟩ := h
  rw [Vals.ref1 r]
  obtain ⟨its, rv, hcl⟩ := coll_list I hs
  exact sorted_tups I (I.ok.hd hc) hcl rv h64 hd hx q
/-- sorted(d), a dict with tuple keys -/
def rSortDT (K : PySem.W.Frag) : List V → Hp → VK → Prop := fun vs H Q => ∃ (a : Addr) (kvs : List (List Key × V)) (ks : List (List Int)) (d : Nat) (B : Int), vs = [V.ref a] ∧ H a = some (.dT kvs) ∧ kvs.map (·.1) = ks.map (fun k => k.map Sum.inl) ∧ ks.length < 64 ∧ 1 ≤ d ∧ (∀ k ∈ ks, k.length = d ∧ TS.Bd B k) ∧
  ∀ (bs : List Addr) (ys : List V) (p : Addr), IsKeys H kvs bs → ys.Perm (bs.map V.ref) → H p = none → Q (.ref p) (upd H p (.lst ys))
theorem cr_sortDT (hc : X.calm = true) : CallR X (.builtin "sorted") (rSortDT X.K) := by
  intro pins s σ H vs us Q I r h
  obtain ⟨a, kvs, ks, d, B, rfl, ha, hk, h64, hd, hB, q⟩ := h
  rw [Vals.ref1 r]
  obtain ⟨z, hs, xs, pr, o, es, ep, ho, hx, hdt, he, hn⟩ := (show ObjOk X.prog X.w H s.heap a (.dT kvs) from I.hok a _ ha)
  have l1 : es.size = xs.length := size_of_entries he
  have l2 : kvs.length = xs.length := Paired.length pr
  have l3 : kvs.length = ks.length := by
    have e := congrArg List.length hk
    rw [List.length_map, List.length_map] at e
    exact e
  have hcl : Coll X s a ((xs.map fun x => x.2.1).map Value.ref) := fun A hA E Q' q' => by
    refine PySem.W.kdu_collect (kdl_raw hs hx hdt) hA ho (by rw [l1, ← l2]; exact z) fun h' tk acc k it => ?_
    have hl : acc.toList.length = xs.length := by rw [Array.length_toList, it.1]; exact l1
    have ea : acc.toList = (xs.map fun x => x.2.1).map Value.ref := by
      rw [List.map_map]
      refine List.ext_getElem? fun j => ?_
      rw [List.getElem?_map]
      cases hj : acc.toList[j]? with
      | none =>
        have h1 := List.getElem?_eq_none_iff.mp hj
        rw [List.getElem?_eq_none (by omega)]
        all_goals rfl
      | some v =>
        obtain ⟨en, hen, hv⟩ := it.2 j v (by rw [← Array.getElem?_toList]; exact hj)
        have qe := entry_at he j
        rw [hen] at qe
        cases hb : xs[j]? with
        | none =>
          rw [hb] at qe
          exact nomatch (show some en = none from qe)
        | some b =>
          rw [hb] at qe
          have e2 : en = entryOfKey (tupleKind (mixKind X.prog X.w)) b := Option.some.inj qe
          rw [hv, e2]
          all_goals rfl
    rw [ea]
    exact q' h' tk k
  have ik := isKeys_of (show KT H kvs xs from pr)
  have rv : Vals ((xs.map fun x => x.2.1).map V.ref) ((xs.map fun x => x.2.1).map Value.ref) := vals_refs _
  refine sorted_tups (B := B) I (I.ok.hd hc) hcl rv (by rw [List.length_map, List.length_map]; omega) hd (fun x hx' => ?_) fun ys p pm np => q _ ys p ik pm np
  obtain ⟨b, hb, rfl⟩ := List.mem_map.mp hx'
  obtain ⟨j, hj, ej⟩ := List.getElem_of_mem hb
  have hjk : j < kvs.length := by rw [List.length_map] at hj; omega
  obtain ⟨b', hb', e'⟩ := paired_get ik (List.getElem?_eq_getElem hjk)
  have eb : b' = b := by
    rw [List.getElem?_eq_getElem hj, ej] at hb'
    exact (Option.some.inj hb').symm
  subst eb
  have hjs : j < ks.length := by omega
  have ek : kvs[j].1 = ks[j].map Sum.inl := by
    have e := congrArg (fun l => l[j]?) hk
    simp only [List.getElem?_map, List.getElem?_eq_getElem hjk, List.getElem?_eq_getElem hjs, Option.map_some] at e
    exact Option.some.inj e
  have hmem := hB ks[j] (List.getElem_mem hjs)
  refine ⟨ks[j], ⟨b', rfl, ?_⟩, hmem.1, hmem.2⟩
  have e3 : (kvs[j].1.map kV) = ks[j].map V.int := by
    rw [ek, List.map_map]
    rfl
  rw [← e3]
  exact SqT.of e'
end
end Lw
set_option Elab.async false
set_option linter.all false
set_option maxRecDepth 100000
set_option maxHeartbeats 4000000
namespace Lw
open PySem PySem.Spec PyProof.Rows L2
/-! ### enumerate(t), t a tuple -/
theorem meets_enum1 {v : Value} {o : Obj} {H : Heap → Prop} (B : Begins v o H) :
    Meets (Builtin.«enumerate.__new__» ⟨[.type "enumerate", v], []⟩) (fun _ R s => H s.heap ∧
      R (.ok (.ret (.ref (s.heap.push o).objs.size))) { s with heap := (s.heap.push o).push { cls := .type "enumerate", data := .fields #[.none, .bool false, .ref s.heap.objs.size, rawInt 0, .none, .none] } }) :=
  .of_wp fun prog w A R s h => by
    obtain ⟨hp, g, d, tk, os⟩ := s
    obtain ⟨h1, h⟩ := h
    have hsub := sub_enumerate
    have q1 : ∀ {A' : Around} {E : Value → Shared → Prop} {Q : Value → Shared → Prop}, Q (.ref hp.objs.size) ⟨hp.push o, g, d, tk, os⟩ → wpAny (model prog w) A' (pyIter v) Q E ⟨hp, g, d, tk, os⟩ := fun q => B.iter prog w _ _ ⟨hp, g, d, tk, os⟩ _ h1 q
    wp_walk using q1
    refine wpAny_stack_any fun st => wpAny_pure ?_
    split
    · rename_i c _ _ _ _ _
      cases (c == Value.type "enumerate") <;> (wp_walk using q1; exact ⟨_, rfl, h⟩)
    · wp_walk using q1
      exact ⟨_, rfl, h⟩
section
variable {prog : Program} {w : World} {A : Around} {E : Value → Shared → Prop} {s : Shared}
theorem call_enum1 {v : Value} {o : Obj} {H : Heap → Prop} {Q : Value → Shared → Prop} (B : Begins v o H) (h1 : H s.heap)
    (h : ∀ h', IsEnum h' (s.heap.objs.size + 1) s.heap.objs.size 0 .none → h'.get? s.heap.objs.size = some o → (∀ b o, s.heap.get? b = some o → h'.get? b = some o) → Q (.ref (s.heap.objs.size + 1)) { s with heap := h' }) :
    wpAny (model prog w) A (call (.type "enumerate") [v]) Q E s := by
  refine callType_new F.called_enumerate (by decide) (F.typeCall_enumerate_1 _) (F.newCall_enumerate_1 _) (fun obj => F.args_object_init_2 obj _) F.entry_enumerate_new (meets_enum1 B) ⟨h1, ?_⟩
  have hz : (s.heap.push o).objs.size = s.heap.objs.size + 1 := Heap.size_push ..
  show _ ∧ _
  rw [hz]
  have he : IsEnum ((s.heap.push o).push { cls := .type "enumerate", data := .fields #[.none, .bool false, .ref s.heap.objs.size, rawInt 0, .none, .none] }) (s.heap.objs.size + 1) s.heap.objs.size 0 .none := by
    have z := Heap.get?_push_size (s.heap.push o) (o := { cls := .type "enumerate", data := .fields #[.none, .bool false, .ref s.heap.objs.size, rawInt 0, .none, .none] }) rfl
    rw [hz] at z
    exact z
  exact ⟨⟨_, he, rfl⟩, h _ he (Heap.get?_push_of_some _ (Heap.get?_push_size _ B.free)) fun b o x => Heap.get?_push_of_some _ (Heap.get?_push_of_some _ x)⟩
end
def IteT (K : PySem.W.Frag) (a : Addr) : It :=
  ⟨fun i H => ∃ (xs : List V) (x : V), SqT K H a xs ∧ xs[i]? = some x, fun i H v H' => ∃ T x, v = .ref T ∧ H T = none ∧ H' = upd H T (.tup [.int (i : Nat), x]) ∧ ∀ xs, SqT K H a xs → xs[i]? = some x, fun i H => ∃ xs : List V, SqT K H a xs ∧ xs.length ≤ i⟩
theorem turn_enumT {P : Program} {w : World} {K : PySem.W.Frag} {elts : List Expr} {kk : Nat} {tpos : Pos} (a e it : Addr) :
    Turn P w K (.Tuple elts kk tpos) (IteT K a) [e, it] e (fun i h => (∃ old, IsEnum h e it ((i : Nat) : Int) old) ∧ h.IsTupleIter it a i ∧ e ≠ it ∧ a ≠ it) where
  mem := by simp
  obj := fun i h st b hb => by
    obtain ⟨⟨old, he⟩, ⟨o, ho, hc, hd⟩, _⟩ := st
    have e' : b = e ∨ b = it := by simpa using hb
    rcases e' with rfl | rfl
    · exact ⟨_, he, fun v q => nomatch q⟩
    · exact ⟨o, ho, fun v q => by rw [hd] at q; cases q⟩
  keep := fun i h h' st k => let ⟨⟨old, he⟩, hi, hne⟩ := st; ⟨⟨old, k e (by simp) _ he⟩, hi.at fun o q => k it (by simp) o q, hne⟩
  item := by
    intro X hP hw hK hc i pins s σ H E I hf st hg
    subst hP hw hK
    obtain ⟨⟨old, he⟩, hit, hne, hna⟩ := st
    obtain ⟨xs, x, hq, hx⟩ := hg
    obtain ⟨its, rv, p, hz⟩ := I.tuple hq
    obtain ⟨u, hu, ru⟩ := rv.get hx
    have hel : e < s.heap.objs.size := Heap.lt_size he
    have hil : it < s.heap.objs.size := by obtain ⟨_, q, _⟩ := hit; exact Heap.lt_size q
    have hlt : i < its.toArray.size := by
      rw [List.size_toArray]
      exact (List.getElem?_eq_some_iff.mp hu).1
    have hea : e ∉ [it, a] := by
      intro m
      have m' : e = it ∨ e = a := by simpa using m
      rcases m' with z | z
      · exact hne z
      · obtain ⟨o, ho, hcls, _⟩ := p
        rw [← z, he] at ho
        cases ho
        exact absurd (show Value.type "enumerate" = Value.type "tuple" from hcls) (by decide)
    refine wpAny_pyNext_enum_itemD (Draws.tuple (show X.A.in1.handled = none from I.ok.hd hc) it a hna its.toArray) he ⟨hit, p⟩ hlt hne hea fun x' h' tk hP' ho hs' hT hsz hk => ?_
    have ex : x' = u := by
      have z : its.toArray[i]? = some u := by simpa using hu
      rw [z] at hP'
      exact (Option.some.inj hP').symm
    subst ex
    refine ⟨_, rfl, wpAny_letOwnedTupleGo_enum (s := { s with heap := h', toks := tk + 1 }) ho fun h'' he' sb => ?_⟩
    have hT2 : h''.get? s.heap.objs.size = some { cls := .type "tuple", data := .seq #[.int i tk, x'] } := (sb.2 _ (Nat.ne_of_gt hel)).trans hT
    have new : ObjOk X.prog X.w (upd H s.heap.objs.size (.tup [.int (i : Nat), x])) h'' s.heap.objs.size (.tup [.int (i : Nat), x]) :=
      ⟨by show 2 ≤ sizeLine; decide, [.int i tk, x'], .cons ⟨_, rfl⟩ (.cons ru .nil), ⟨_, hT2, rfl, _, rfl⟩⟩
    have I1 : Inv X pins σ (upd H s.heap.objs.size (.tup [.int (i : Nat), x])) { s with heap := h'', toks := tk + 1 } :=
      I.turnedNew (t' := tk + 1) (ch := [e, it]) (fun b ob hb q => (sb.2 b (fun z => hb (by simp [z]))).trans (hk b ob (fun z => hb (by simp [z])) (fun z => hb (by simp [z])) q)) hf (Nat.le_refl _) new
    refine ⟨.ref s.heap.objs.size, _, I1, rfl, ⟨_, x, rfl, I.hok.fresh (Nat.le_refl _), rfl, fun ys hy => by rw [I.tuple_inj hy hq]; exact hx⟩, ⟨⟨x', ?_⟩, hs'.1.at fun o q => (sb.2 it (Ne.symm hne)).trans q, hne, hna⟩, fun b hb => ?_⟩
    · have e1 : ((i + 1 : Nat) : Int) = (i : Int) + 1 := by omega
      rw [e1]
      exact he'
    · have hb' : b < s.heap.objs.size := by
        have e' : b = e ∨ b = it := by simpa using hb
        rcases e' with rfl | rfl
        · exact hel
        · exact hil
      rw [upd_ne (Nat.ne_of_lt hb')]
      exact (hf b hb).1
  done := by
    intro X hP hw hK hc i pins s σ H E I hf st hg
    subst hP hw hK
    obtain ⟨⟨old, he⟩, hit, hne, hna⟩ := st
    obtain ⟨xs, hq, hx⟩ := hg
    obtain ⟨its, rv, p, hz⟩ := I.tuple hq
    obtain ⟨f0, f1, f2, f3, f4, f5⟩ := hf it (by simp)
    have hl := rv.length
    unfold pyNext
    have hT : s.TypeIs (.ref e) "enumerate" := ⟨_, he, rfl⟩
    refine wpAny_bind (wpAny_attempt (wpAny_callSpecial?_slot (name := Str.ofString "__next__") hT PySem.F.slot_enumerate_next
      (wpAny_call_entry PySem.F.slot_enumerate_next hT PySem.F.entry_enumerate_next ?_ (PySem.F.args_enumerate_next_1 _))))
    show wpAny _ _ (field (.ref e) 2 >>= _) _ _ _
    refine wpAny_bind (wpAny_field he rfl (x := .ref it) rfl ?_)
    refine wpAny_bind (wpAny_nextOf_tuple_end (show X.A.in1.handled = none from I.ok.hd hc) hit p (by simp; omega) fun h' x eb hx' => ?_)
    obtain ⟨o, ho, hcx⟩ := hx'
    refine wpAny_bind (wpAny_isInstance (T := "StopIteration") (b := true) ⟨o, ho, hcx⟩ isSubtype_stop ?_)
    exact wpAny_pure ⟨rfl, I.turned (t' := s.toks) (fun b o hb q => eb b o hb q) f0 f1 f3 f4 f5⟩
  self := fun A i s Q E st h => let ⟨⟨_, he⟩, _⟩ := st; wpAny_pyIter_enum he h
def iEnumT (K : PySem.W.Frag) (ta : TA) : TI := fun σ H R => ta σ H fun vs H1 => ∃ a xs, vs = [.ref a] ∧ SqT K H1 a xs ∧ R (IteT K a) H1
theorem pi_enumT {X : Cx} {e : Expr} {ta : TA} {p pos tpos : Pos} {elts : List Expr} {kk : Nat} (hg : Gl X "enumerate") (hm : X.mg "enumerate" = none) (ha : PA X [e] ta) (hs : starEach [e] X.env = [(false, eval e X.env)] := by rfl) :
    PI X (.Tuple elts kk tpos) (.Call (.Name "enumerate" p) [e] [] pos) (iEnumT X.K ta) := by
  refine ⟨fun pins s σ H R I h => ?_⟩
  refine Call_ (ld_blt I hg hm boot_enumerate (PyProof.Rows.callWith_type1 (thn (ha.run pos pins s σ H _ I h) fun us s1 ⟨vs, H1, I1, r1, a, xs, ex, hq, q⟩ => ?_) hs rfl))
  subst ex
  rw [Vals.ref1 r1]
  obtain ⟨its, rv, p', hz⟩ := I1.tuple hq
  refine call_enum1 (begins_tuple a its.toArray) p' fun h' he hit hk => wpAny_pyIter_enum he ?_
  have I2 : Inv X pins σ H1 { s1 with heap := h' } := I1.kept (t' := s1.toks) hk
  have hna : a ≠ s1.heap.objs.size := by
    obtain ⟨o, ho, _⟩ := p'
    exact Nat.ne_of_lt (Heap.lt_size ho)
  refine ⟨s1.heap.objs.size + 1, [s1.heap.objs.size + 1, s1.heap.objs.size], _, _, H1, rfl, I2, turn_enumT a (s1.heap.objs.size + 1) s1.heap.objs.size, ⟨⟨.none, he⟩, ⟨_, hit, rfl, rfl⟩, Nat.succ_ne_self _, hna⟩, fun b hb => ?_, q⟩
  have e' : b = s1.heap.objs.size + 1 ∨ b = s1.heap.objs.size := by simpa using hb
  have hle : s1.heap.objs.size ≤ b := by
    rcases e' with rfl | rfl
    · exact Nat.le_add_right _ _
    · exact Nat.le_refl _
  exact I1.fpOk hle (I1.hok.fresh hle)
end Lw
set_option Elab.async false
set_option linter.all false
set_option maxRecDepth 100000
set_option maxHeartbeats 4000000
namespace Lw
open PySem PySem.Spec PyProof.Rows L2
section
variable {X : Cx} {a o e : Expr} {ta to te : TE}
/-! ### t.index(k), whole numbers -/
def rIdx (K : PySem.W.Frag) : V → List V → Hp → VK → Prop := fun x xs H Q => ∃ (p : Addr) (ns : List Int) (k : Int) (j : Nat), x = .ref p ∧ xs = [.int k] ∧ SqT K H p (ns.map V.int) ∧ ns[j]? = some k ∧ (∀ m, m < j → ns[m]? ≠ some k) ∧ Q (.int (j : Nat)) H
theorem mt_idx : MtR X "tuple.index" (rIdx X.K) := by
  intro pins s σ H x xs v us Q I rx rs h
  obtain ⟨p, ys, z, j, rfl, rfl, hq, hy, hno, q⟩ := h
  cases rx
  obtain ⟨u, rfl, t, rfl⟩ := vals1 rs
  obtain ⟨its, r, pl, hz⟩ := I.tuple hq
  obtain ⟨⟨cls, dd, dt, sl⟩, ho, hc, n, hd⟩ := pl
  simp only at hc hd
  subst hc hd
  have hl : its.toArray.size = ys.length := by rw [List.size_toArray, ← r.length, List.length_map]
  have hj : j < its.toArray.size := by rw [hl]; exact (List.getElem?_eq_some_iff.mp hy).1
  have at' : ∀ (m : Nat) (hm : m < its.toArray.size), ∃ y t', ys[m]? = some y ∧ its.toArray[m] = Value.int y t' := fun m hm => by
    have hm' : m < ys.length := by rw [← hl]; exact hm
    obtain ⟨w, hw, t', hw'⟩ := r.get (i := m) (x := .int ys[m]) (by simp [hm'])
    refine ⟨ys[m], t', List.getElem?_eq_getElem hm', ?_⟩
    rw [← hw', ← (List.getElem?_eq_some_iff.mp hw).2]
    simp
  have eqv : ∀ (y : Int) (t' : Tok), eqU (.int z) (Value.int y t') = decide (y = z) := fun y t' => by
    rw [eqU_of (y := .int y) ⟨t', rfl⟩ rfl]
    first | rfl | (unfold eqV; simp)
  refine call_meets PySem.F.slot_tuple_index ⟨_, ho, rfl⟩ PySem.F.entry_tuple_index (PySem.F.args_tuple_index_2 _ _) (TI.tuple_indexAt p its.toArray n dd sl (.int z t) (eqU (.int z)) j hj ?_ ?_)
    ⟨ho, fun w hw => mem_eqAt (x := .int z) ⟨t, rfl⟩ rfl r (flat_ints ys) w (by simpa using hw), ⟨.int (j : Nat), H, I.tok _, ⟨_, rfl⟩, q⟩⟩
  · obtain ⟨y, t', h1, h2⟩ := at' j hj
    rw [hy] at h1
    cases h1
    rw [h2, eqv]
    exact decide_eq_true rfl
  · intro m hm hmj
    obtain ⟨y, t', h1, h2⟩ := at' m hm
    rw [h2, eqv]
    exact decide_eq_false fun e => hno m hmj (e ▸ h1)

def tIdx (to te : TE) : TE := fun σ H Q => to σ H fun x H1 => ∃ (p : Addr) (u : HO) (ns : List Int), x = .ref p ∧ H1 p = some u ∧ sealT (ns.map V.int) u ∧ te σ H1 fun y H2 => ∃ (k : Int) (j : Nat), [y] = [V.int k] ∧ H2 p = some u ∧ ns[j]? = some k ∧ (∀ m, m < j → ns[m]? ≠ some k) ∧ Q (.int (j : Nat)) H2
theorem pe_idx {apos cpos : Pos} (ho : PE X o to) (he : PE X e te) (hbase : attributeBase o "index" X.env (eval o X.env) = eval o X.env := by rfl)
    (hfew : ((backTo cpos (starEach [e] X.env)).all (fun x => !x.1) && (backToKw cpos (keywordEach [] X.env)).all (fun x => x.1.isSome)
      && decide ([e].length + ([] : List Keyword).length + (if ([] : List Keyword).isEmpty then 0 else 1) < 30)) = true := by rfl)
    (hline : (apos.endLine == cpos.line) = true := by rfl) (hs : starEach [e] X.env = (false, eval e X.env) :: starEach [] X.env := by rfl) (hplain : (backTo cpos (starEach [] X.env)).any (·.1) = false := by rfl) :
    PE X (.Call (.Attribute o "index" apos) [e] [] cpos) (tIdx to te) := by
  refine ⟨fun pins s σ H Q I h => ?_⟩
  refine wpAny_Call_method_late hbase hfew hline rfl (thn (ho.run pins s σ H _ I h) fun v s1 ⟨x, H1, I1, r1, p, u, ns, ex, hp, hu, q1⟩ => ?_)
  subst ex
  cases r1
  obtain ⟨ob, hd, rfl⟩ := hu
  obtain ⟨g1, hz, its, rv, ob2, g2, hcls, _⟩ := (show ObjOk X.prog X.w H1 s1.heap p (.frz ob (.tup (ns.map V.int))) from I1.hok p _ hp)
  rw [g1] at g2
  cases g2
  refine ⟨"tuple", "tuple.index", PySem.F.plainAttrs_tuple, PySem.F.slot_tuple_index, PySem.F.type_tuple_index, ⟨_, g1, hcls⟩, fun a e => ?_, ?_⟩
  · cases e
    exact ⟨_, g1, hd⟩
  · have hA := (pa_cons he pa_nil hs).run cpos pins s1 σ H1 (fun vs H2 => ∃ (k : Int) (j : Nat), vs = [V.int k] ∧ H2 p = some (.frz ob (.tup (ns.map V.int))) ∧ ns[j]? = some k ∧ (∀ m, m < j → ns[m]? ≠ some k) ∧ Q (.int (j : Nat)) H2) I1 q1
    rw [hs] at hA ⊢
    refine Calls.callWith_builtin (by show (false || (backTo cpos (starEach [] X.env)).any (·.1)) = false; rw [hplain] <;> rfl) (Calls.evalArgs_plain ?_)
    refine thn hA fun us s2 ⟨vs, H2, I2, r2, k, j, ev, h2, hj, hno, q⟩ => ?_
    subst ev
    exact mt_idx pins s2 σ H2 (.ref p) [.int k] (.ref p) us Q I2 rfl r2 ⟨p, ns, k, j, rfl, rfl, .inl (.inr ⟨_, h2⟩), hj, hno, q⟩
/-! ### set(x) of whole numbers, sorted or counted -/
/-- a set of just the ints ns, its count -/
def SetFrom (X : Cx) (s : Shared) (a : Addr) (ns : List Int) : Prop := ∀ (A : Around), A.handled = none → ∀ (E : Value → Shared → Prop) (Q : Value → Shared → Prop), (∀ (h' : Heap) (tk c : Nat), SetR X.w h' s.heap.objs.size (fun j => decide (j ∈ ns)) c → c ≤ ns.length → (∀ b o, s.heap.get? b = some o → h'.get? b = some o) → Q (.ref s.heap.objs.size) { s with heap := h', toks := tk }) →
  wpAny (model X.prog X.w) A (call (.type "set") [.ref a]) Q E s
theorem set_tup {pins : List (Addr × Obj)} {σ : L2.St} {H : Hp} {s : Shared} {a : Addr} {ns : List Int} (I : Inv X pins σ H s) (h : SqT X.K H a (ns.map V.int)) (hn : ns.length ≤ 1000) : SetFrom X s a ns := fun A hh E Q q => by
  obtain ⟨its, r, pl, hz⟩ := I.tuple h
  exact call_set_tupI (w := X.w) (P := X.prog) ns hh pl (by simpa using Vals.ints r) (by unfold scanBound; omega) q
end
end Lw
set_option Elab.async false
set_option linter.all false
set_option maxRecDepth 100000
set_option maxHeartbeats 4000000
namespace Lw
open PySem PySem.Spec PyProof.Rows L2
/-! ### set(x) of a list of whole numbers -/
section
variable {P : Program} {w : World} {A : Around} {E : Value → Shared → Prop} {s : Shared}
abbrev eset (w : World) : Obj := { cls := .type "set", dict := none, data := .set #[] 0 (.fresh 0 0 (!w.params.followText "set-order")) }
theorem call_set_lstI {l : Addr} {items : Array Value} (ns : List Int) {Q : Value → Shared → Prop} (hh : A.handled = none) (hl : s.heap.IsList l items) (hit : IntsAre items.toList ns) (hb : ns.length + 1 < scanBound)
    (h : ∀ (h' : Heap) (tk c : Nat), SetR w h' s.heap.objs.size (fun j => decide (j ∈ ns)) c → c ≤ ns.length → (∀ b o, s.heap.get? b = some o → h'.get? b = some o) → Q (.ref s.heap.objs.size) { s with heap := h', toks := tk }) :
    wpAny (model P w) A (call (.type "set") [.ref l]) Q E s := by
  have hisz : items.size = ns.length := by
    have q := IntsAre.length hit
    rw [Array.length_toList] at q
    exact q
  obtain ⟨c, tl, hmro⟩ := F.called_set.mro
  have hmade := F.called_set.made
  have hsub := F.called_set.sub
  refine wpAny_call (codeAny_of_tree ?_)
  show wpAny _ _ (callAny (.type "set") _) _ _ _
  refine wpAny_pure ⟨Code.quiet_builtin _ (by decide +kernel), codeAny_builtin F.entry_type_call ?_⟩
  rw [Around.under_plain (weight_type_call_type "set" [.ref l] []) rfl]
  have h1 := F.called_set.notType
  have h2 := F.called_set.canCreate
  have hct := F.typeCall_set_1 (.ref l)
  repeat (any_goals (first | assumption | wp_step))

  refine codeAny_mono (code_set_led1 (.ref l) (E := E) (Q₁ := fun obj s₁ => obj = .ref s.heap.objs.size ∧ s₁ = { s with heap := s.heap.push (eset w) }) ⟨rfl, rfl⟩) fun r s₁ hr => ?_
  cases r with
  | error e => exact hr
  | ok fl =>
    cases fl with
    | ret obj =>
      obtain ⟨rfl, rfl⟩ := hr
      have hS : (s.heap.push (eset w)).get? s.heap.objs.size = some (eset w) := Heap.get?_push_size _ rfl
      have hT : Shared.TypeIs { s with heap := s.heap.push (eset w) } (.ref s.heap.objs.size) "set" := ⟨_, hS, rfl⟩
      have hli := F.called_set.init.lookup
      have hbi := F.called_set.init.bind (.ref s.heap.objs.size)
      repeat (any_goals (first | assumption | wp_step))

      refine codeAny_mono (codeAny_call_builtin (R := wants (fun r s₂ => r = .none ∧ ∃ h' tk c, s₂ = { s with heap := h', toks := tk } ∧ SetR w h' s.heap.objs.size (fun j => decide (j ∈ ns)) c ∧ c ≤ ns.length ∧
          (∀ b o, s.heap.get? b = some o → h'.get? b = some o)) E) F.called_set.init.plain F.entry_set_init (check_set_init_1 hT ?_)) fun r₂ s₂ hr₂ => ?_
      · obtain ⟨ol, hol, hcl, nl, hdl⟩ := hl
        obtain ⟨ocls, odict, odata, oslots⟩ := ol
        simp only at hcl hdl
        subst hcl; subst hdl
        have hol' : (s.heap.push (eset w)).get? l = some { cls := .type "list", dict := odict, data := .seq items nl, slots := oslots } := Heap.get?_push_of_some _ hol
        have hsls := F.sub_list_set
        have hslf := F.sub_list_frozenset
        have hne : (Value.type "list" == Value.type "dict") = false := by decide
        have hl1 : (s.heap.push (eset w)).IsList l items := ⟨_, hol', rfl, nl, rfl⟩
        unfold Builtin.«set.__init__» noKeywords Builtin.Frozenset.updateFrom
        generalize hPI : pyIter = PI
        wp_walk
        subst hPI

        refine wpAny_pyIter_list hl1 ?_
        refine wpAny_bind (wpAny_runValue ?_)
        have hlS : l < s.heap.objs.size := Heap.lt_size hol
        have hh3 : A.in1.in1.in1.handled = none := by simp [hh]
        have hz1 : (s.heap.push (eset w)).objs.size = s.heap.objs.size + 1 := Heap.size_push ..
        have hneI : l ≠ (s.heap.push (eset w)).objs.size := by
          rw [Heap.size_push]; exact Nat.ne_of_lt (Nat.lt_succ_of_lt hlS)
        have hSf : s.heap.objs.size ∉ [(s.heap.push (eset w)).objs.size, l] := by
          rw [Heap.size_push]; simp only [List.mem_cons, List.mem_singleton, List.not_mem_nil, or_false, not_or]
          exact ⟨Nat.ne_of_lt (Nat.lt_succ_self _), Nat.ne_of_gt hlS⟩
        have hval : ∀ (i : Nat) (v : Value), items[i]? = some v → ∃ k t, ns[i]? = some k ∧ v = .int k t := fun i v hv => by
          have hi : i < ns.length := by rw [← hisz]; exact (Array.getElem?_eq_some_iff.mp hv).1
          obtain ⟨t, e⟩ := PyProof.Rows.IntsAre.int_at hit i v (by rw [Array.getElem?_toList]; exact hv)
          refine ⟨ns[i], t, List.getElem?_eq_getElem hi, ?_⟩
          rw [e, List.getD_eq_getElem?_getD, List.getElem?_eq_getElem hi] <;> rfl
        refine set_update_ints ((Walks.list hh3 _ l hneI items).toS) s.heap.objs.size
          hSf ns hisz hb hval (items.size - 0) 0 _ (by omega) (Nat.zero_le _)
          ⟨⟨_, Heap.get?_push_size _ rfl, rfl, rfl⟩, (hl1.push _)⟩ ?hS0 ?hR
        case hS0 =>
          have hget : ((s.heap.push (eset w)).push { cls := .type "list_iterator", data := .fields #[.ref l, .int 0 0] }).get? s.heap.objs.size
              = some (eset w) := Heap.get?_push_of_some _ hS
          exact ⟨0, Nat.le_refl 0, setR_new_at hget⟩
        case hR =>
          intro s' c' hm hc' hS'
          obtain ⟨h', g2, d', tk', os'⟩ := s'
          have eg : g2 = s.gens := hm.gens
          have ed : d' = s.drawn := hm.drawn
          have eo : os' = s.os := hm.os
          subst eg; subst ed; subst eo
          show wpAny _ _ _ _ _ _
          refine wpAny_pure ?_
          show wpAny _ _ (ret Value.none) _ _ _
          rw [hisz] at hc'
          refine wpAny_pure ⟨rfl, h', tk', c', rfl, hS', hc', fun b o e => ?_⟩
          have hb0 : b < s.heap.objs.size := Heap.lt_size e
          have hb1 : b ≠ s.heap.objs.size := Nat.ne_of_lt hb0
          have hb2 : b ≠ (s.heap.push (eset w)).objs.size := by
            rw [Heap.size_push]; exact Nat.ne_of_lt (Nat.lt_succ_of_lt hb0)
          exact hm.heap b o (by simp only [List.mem_cons, List.mem_singleton, List.not_mem_nil, or_false, not_or]; exact ⟨hb1, hb2⟩) (Heap.get?_push_of_some _ (Heap.get?_push_of_some _ e))

      · cases r₂ with
        | error e => exact hr₂
        | ok fl₂ =>
          cases fl₂ with
          | ret r =>
            obtain ⟨rfl, h', tk, c', rfl, hS', hc', hk'⟩ := hr₂
            repeat (any_goals (first | assumption | wp_step))
            exact h _ _ _ hS' hc' hk'
          | _ => exact hr₂.elim
    | _ => exact hr.elim
end
theorem set_lst {X : Cx} {pins : List (Addr × Obj)} {σ : L2.St} {H : Hp} {s : Shared} {a : Addr} {ns : List Int} (I : Inv X pins σ H s) (h : SqL X.K H a (ns.map V.int)) (hn : ns.length ≤ 1000) : SetFrom X s a ns := fun A hh E Q q => by
  obtain ⟨its, r, pl, hz⟩ := I.list h
  exact call_set_lstI (w := X.w) (P := X.prog) ns hh pl.isList (by simpa using Vals.ints r) (by unfold scanBound; omega) q
theorem set_seq {X : Cx} {pins : List (Addr × Obj)} {σ : L2.St} {H : Hp} {s : Shared} {a : Addr} {ns : List Int} (I : Inv X pins σ H s) (h : SqL X.K H a (ns.map V.int) ∨ SqT X.K H a (ns.map V.int)) (hn : ns.length ≤ 1000) : SetFrom X s a ns :=
  h.elim (fun h => set_lst I h hn) fun h => set_tup I h hn
section
variable {X : Cx} {a : Expr} {ta : TE}
def tLenSet (K : PySem.W.Frag) (ta : TE) : TE := fun σ H Q => ta σ H fun x H1 => ∃ (l : Addr) (ns : List Int), x = .ref l ∧ (SqL K H1 l (ns.map V.int) ∨ SqT K H1 l (ns.map V.int)) ∧ ns.length < 64 ∧ ∀ ms : List Int, ms.Nodup → (∀ k, k ∈ ms ↔ k ∈ ns) → Q (.int (ms.length : Nat)) H1
theorem pe_lenSetQ {p p2 q pos : Pos} (hc : X.calm = true) (hg : Gl X "len") (hm : X.mg "len" = none) (hg2 : Gl X "set") (hm2 : X.mg "set" = none) (ha : PE X a ta)
    (na : starEach [a] X.env = (false, eval a X.env) :: starEach [] X.env := by rfl) : PE X (.Call (.Name "len" p) [.Call (.Name "set" p2) [a] [] q] [] pos) (tLenSet X.K ta) := by
  refine ⟨fun pins s σ H Q I h => ?_⟩
  refine Call_ (ld_blt I hg hm PySem.boot_len ?_)
  refine PyProof.Rows.callWith_builtin1 (PyProof.Rows.args_cons ?_ rfl) rfl rfl
  refine Call_ (ld_blt I hg2 hm2 PyProof.Rows.boot_set ?_)
  refine PyProof.Rows.callWith_type1 (PyProof.Rows.args_cons (thn (ha.run pins s σ H _ I h) fun v s1 ⟨x, H1, I1, r1, q1⟩ => PyProof.Rows.args_nil ?_) na) na rfl
  obtain ⟨l, ns, rfl, hq, h64, q1⟩ := q1
  cases r1
  refine set_seq I1 hq (by omega) _ (I1.ok.hd hc) _ _ fun h' tk c R hcl hk => ?_
  refine PyProof.Rows.args_nil ?_
  obtain ⟨o, es, ep, t, ho, hex, hd, g, nd, hm', hb, hf, hn, _⟩ := R
  have I2 : Inv X pins σ H1 { s1 with heap := h', toks := tk } := I1.kept hk
  refine call_len_set ho hex hd hf (by rw [hn]; omega) ⟨.int (es.toList.map keyOf).length, H1, I2.tok _, ⟨_, by rw [List.length_map, Array.length_toList]⟩, q1 _ nd fun k => ?_⟩
  rw [← hm' k, decide_eq_true_iff]
def tSortSet (K : PySem.W.Frag) (ta : TE) : TE := fun σ H Q => ta σ H fun x H1 => ∃ (l : Addr) (ns : List Int), x = .ref l ∧ (SqL K H1 l (ns.map V.int) ∨ SqT K H1 l (ns.map V.int)) ∧ ns.length < 64 ∧
  ∀ (ys : List Int) (p : Addr), ys.Pairwise (· < ·) → (∀ k, k ∈ ys ↔ k ∈ ns) → H1 p = none → Q (.ref p) (upd H1 p (.lst (ys.map V.int)))
theorem pe_sortSet {p p2 q pos : Pos} (hc : X.calm = true) (hg : Gl X "sorted") (hm : X.mg "sorted" = none) (hg2 : Gl X "set") (hm2 : X.mg "set" = none) (ha : PE X a ta)
    (na : starEach [a] X.env = (false, eval a X.env) :: starEach [] X.env := by rfl) : PE X (.Call (.Name "sorted" p) [.Call (.Name "set" p2) [a] [] q] [] pos) (tSortSet X.K ta) := by
  refine ⟨fun pins s σ H Q I h => ?_⟩
  refine Call_ (ld_blt I hg hm PyProof.Rows.boot_sorted ?_)
  refine PyProof.Rows.callWith_builtin1 (PyProof.Rows.args_cons ?_ rfl) rfl rfl
  refine Call_ (ld_blt I hg2 hm2 PyProof.Rows.boot_set ?_)
  refine PyProof.Rows.callWith_type1 (PyProof.Rows.args_cons (thn (ha.run pins s σ H _ I h) fun v s1 ⟨x, H1, I1, r1, q1⟩ => PyProof.Rows.args_nil ?_) na) na rfl
  obtain ⟨l, ns, rfl, hq, h64, q1⟩ := q1
  cases r1
  refine set_seq I1 hq (by omega) _ (I1.ok.hd hc) _ _ fun h' tk c R hcl hk => ?_
  refine PyProof.Rows.args_nil ?_
  have I2 : Inv X pins σ H1 { s1 with heap := h', toks := tk } := I1.kept hk
  refine sorted_set (s := { s1 with heap := h', toks := tk }) R (I1.ok.hd hc) (by omega) fun s' p out c' ys k g o hp hg' hi hs hm2' hl => ?_
  have hlen : (ys.map V.int).length ≤ sizeLine := by
    rw [List.length_map, hl, sizeLine_eq]
    omega
  have hn : H1 p = none := I2.hok.fresh hp
  have J : Inv X pins σ (upd H1 p (.lst (ys.map V.int))) { ({ s1 with heap := h', toks := tk } : Shared) with heap := s'.heap, gens := s'.gens, drawn := s'.drawn, toks := s'.toks } :=
    I2.call (ch := []) (Un.laid k hp hn) (I2.hok.laid k hp ⟨hlen, out.toList, c', vals_of_ints hi, hg'⟩) (by rw [g]; exact I2.bare) (fun _ z => nomatch z)
  have e : s' = { ({ s1 with heap := h', toks := tk } : Shared) with heap := s'.heap, gens := s'.gens, drawn := s'.drawn, toks := s'.toks } := by
    cases s'
    cases s1
    cases o
    rfl
  rw [e]
  exact ⟨.ref p, _, J, rfl, q1 ys p hs (fun k => by rw [hm2' k, decide_eq_true_iff]) hn⟩
end
end Lw
set_option Elab.async false
set_option linter.all false
set_option maxRecDepth 100000
set_option maxHeartbeats 1000000
namespace Lw
open PySem PySem.Spec PyProof.Rows L2
/-! ### readings -/
def gD (g : Nat × Nat) : D := .tuple [natD g.1, natD g.2]
def webD (m : Nat) (gs : List (Nat × Nat)) : D := .tuple [natD m, .tuple (gs.map gD)]
def tD : Option Nat → D
  | .none => .none
  | .some p => natD p
def takD (ts : List (Option Nat)) : D := .tuple (ts.map tD)
def natsT (l : List Nat) : D := .tuple (natsD l)
def natsL (l : List Nat) : D := .list (natsD l)
def pairD (p : Nat × Nat) : D := prD (natD p.1) (natD p.2)
def enumD (ds : List D) : List D := ds.zipIdx.map fun p => prD (natD p.2) p.1
theorem enumD_map {α : Type} (f : α → D) (ts : List α) : enumD (ts.map f) = ts.zipIdx.map fun p => prD (natD p.2) (f p.1) := by
  unfold enumD
  rw [List.zipIdx_map, List.map_map]
  rfl
def zipD (xs ys : List D) : List D := (xs.zip ys).map fun p => prD p.1 p.2
theorem natD_inj {a b : Nat} (h : natD a = natD b) : a = b := by
  unfold natD at h
  injection h with h
  omega
theorem natsD_len (l : List Nat) : (natsD l).length = l.length := List.length_map _
theorem natsD_get (l : List Nat) (i : Nat) : (natsD l)[i]? = l[i]?.map natD := List.getElem?_map
section
variable {K : PySem.W.Frag} {ρ : Rho} {te ta tb tc tl : TE} {tt tu : TT} {ts tr : TA} {d x y z : D} {xs ys ds : List D} {w : Own} {t u : TS} {P : De}
theorem EvE.one (h : EvE te ρ x) : EvS (tCons te tNil) ρ [x] := s_cons h s_nil
theorem EvB.one (h : EvB te ρ x) : EvA (tCons te tNil) ρ [x] := a_cons h a_nil
/-! ### enumerate, zip -/
theorem yl_enumT {a : Addr} {vs : List V} {u : HO} {G : Hp} (h : G a = some u) (hu : sealT vs u) (r : RpL G vs xs) : Yl (IteT K a) (enumD xs) G G := by
  have hl : (enumD xs).length = xs.length := by unfold enumD; rw [List.length_map, List.length_zipIdx]
  refine ⟨fun i H' e hi => ⟨vs, vs[i]'(by rw [r.len]; omega), sqt_seal (e _ _ h) hu, by rw [List.getElem?_eq_getElem]⟩, fun i H' e hi => ⟨vs, sqt_seal (e _ _ h) hu, by rw [r.len]; omega⟩, fun i H' x H'' d e hd y G2 g2 s2 => ?_⟩
  obtain ⟨T, x', rfl, hT, rfl, hx⟩ := y
  have h1 := hx vs (sqt_seal (e _ _ h) hu)
  obtain ⟨dx, hdx, rx⟩ := r.getV h1
  have ed : d = prD (natD i) dx := by
    unfold enumD at hd
    rw [List.getElem?_map, List.getElem?_zipIdx, hdx] at hd
    have := Option.some.inj hd
    rw [← this]
    simp
  subst ed
  exact ⟨_, Px.new2 s2 hT, .pr upd_same (.int _) ((rx.mono g2).mono (same_new (s2.free hT)))⟩
theorem i_enumT (h : EvE te ρ (.tuple xs)) : IterS (iEnumT K (tCons te tNil)) ρ (enumD xs) := fun σ H G k R q => h σ H G k _ fun v H1 G1 x1 r1 => by
  obtain ⟨a, u, vs, rfl, h1, hu, r⟩ := r1.tupV
  exact ⟨a, vs, rfl, sqt_seal (x1.s _ _ h1) hu, q _ H1 G1 x1 (yl_enumT h1 hu r)⟩
theorem yl_enum {a : Addr} {vs : List V} {G : Hp} (h : G a = some (.lst vs)) (r : RpL G vs xs) : Yl (Ite K a) (enumD xs) G G := by
  have hl : (enumD xs).length = xs.length := by unfold enumD; rw [List.length_map, List.length_zipIdx]
  refine ⟨fun i H' e hi => ⟨vs, vs[i]'(by rw [r.len]; omega), SqL.of (e _ _ h), by rw [List.getElem?_eq_getElem]⟩, fun i H' e hi => ⟨vs, SqL.of (e _ _ h), by rw [r.len]; omega⟩, fun i H' x H'' d e hd y G2 g2 s2 => ?_⟩
  obtain ⟨T, x', rfl, hT, rfl, hx⟩ := y
  have h1 := hx vs (SqL.of (e _ _ h))
  obtain ⟨dx, hdx, rx⟩ := r.getV h1
  have ed : d = prD (natD i) dx := by
    unfold enumD at hd
    rw [List.getElem?_map, List.getElem?_zipIdx, hdx] at hd
    have := Option.some.inj hd
    rw [← this]
    simp
  subst ed
  exact ⟨_, Px.new2 s2 hT, .pr upd_same (.int _) ((rx.mono g2).mono (same_new (s2.free hT)))⟩
theorem i_enum (h : EvE te ρ (.list xs)) : IterS (iEnum K (tCons te tNil)) ρ (enumD xs) := fun σ H G k R q => h σ H G k _ fun v H1 G1 x1 r1 => by
  obtain ⟨a, vs, rfl, h1, r⟩ := r1.lstV
  exact ⟨a, vs, rfl, SqL.of (x1.s _ _ h1), q _ H1 G1 x1 (yl_enum h1 r)⟩
theorem zip_get {xs ys : List D} {i : Nat} {d : D} (h : (zipD xs ys)[i]? = some d) : ∃ x y, xs[i]? = some x ∧ ys[i]? = some y ∧ d = prD x y := by
  unfold zipD at h
  rw [List.getElem?_map] at h
  cases e : (xs.zip ys)[i]? with
  | none => rw [e] at h; cases h
  | some p =>
    rw [e] at h
    have := Option.some.inj h
    obtain ⟨h1, h2⟩ := List.getElem?_zip_eq_some.mp e
    exact ⟨p.1, p.2, h1, h2, this.symm⟩
theorem zip_len (xs ys : List D) : (zipD xs ys).length = min xs.length ys.length := by unfold zipD; rw [List.length_map, List.length_zip]
theorem i_zipT (h : EvS ts ρ [.tuple xs, .tuple ys]) : IterS (RZ.iZipA K ts) ρ (zipD xs ys) := fun σ H G k R q => h σ H G k _ fun vs H1 G1 x1 r1 => by
  cases r1 with
  | cons ra r1 =>
    cases r1 with
    | cons rb r1 =>
      cases r1
      obtain ⟨a, u, vx, rfl, h1, hu, r⟩ := ra.tupV
      obtain ⟨b, u', vy, rfl, h2, hu', r'⟩ := rb.tupV
      refine ⟨a, b, vx, vy, rfl, .inr ⟨sqt_seal (x1.s _ _ h1) hu, sqt_seal (x1.s _ _ h2) hu', q _ H1 G1 x1 ?_⟩⟩
      refine ⟨fun i H' e hi => ?_, fun i H' e hi => ⟨vx, vy, sqt_seal (e _ _ h1) hu, sqt_seal (e _ _ h2) hu', ?_⟩, fun i H' x H'' d e hd y G2 g2 s2 => ?_⟩
      · rw [zip_len] at hi
        exact ⟨vx, vy, vx[i]'(by rw [r.len]; omega), vy[i]'(by rw [r'.len]; omega), sqt_seal (e _ _ h1) hu, sqt_seal (e _ _ h2) hu', by rw [List.getElem?_eq_getElem], by rw [List.getElem?_eq_getElem]⟩
      · rw [zip_len] at hi
        rw [r.len, r'.len]
        omega
      · obtain ⟨T, x', y', rfl, hT, rfl, hx, hy⟩ := y
        have g1 := hx vx (sqt_seal (e _ _ h1) hu)
        have g3 := hy vy (sqt_seal (e _ _ h2) hu')
        obtain ⟨dx, dy, e1, e2, rfl⟩ := zip_get hd
        obtain ⟨dx', e3, rx⟩ := r.getV g1
        obtain ⟨dy', e4, ry⟩ := r'.getV g3
        rw [e1] at e3
        rw [e2] at e4
        cases e3
        cases e4
        exact ⟨_, Px.new2 s2 hT, .pr upd_same ((rx.mono g2).mono (same_new (s2.free hT))) ((ry.mono g2).mono (same_new (s2.free hT)))⟩
theorem i_zipL (h : EvS ts ρ [.list xs, .list ys]) : IterS (RZ.iZipA K ts) ρ (zipD xs ys) := fun σ H G k R q => h σ H G k _ fun vs H1 G1 x1 r1 => by
  cases r1 with
  | cons ra r1 =>
    cases r1 with
    | cons rb r1 =>
      cases r1
      obtain ⟨a, vx, rfl, h1, r⟩ := ra.lstV
      obtain ⟨b, vy, rfl, h2, r'⟩ := rb.lstV
      refine ⟨a, b, vx, vy, rfl, .inl ⟨SqL.of (x1.s _ _ h1), SqL.of (x1.s _ _ h2), q _ H1 G1 x1 ?_⟩⟩
      refine ⟨fun i H' e hi => ?_, fun i H' e hi => ⟨vx, vy, SqL.of (e _ _ h1), SqL.of (e _ _ h2), ?_⟩, fun i H' x H'' d e hd y G2 g2 s2 => ?_⟩
      · rw [zip_len] at hi
        exact ⟨vx, vy, vx[i]'(by rw [r.len]; omega), vy[i]'(by rw [r'.len]; omega), SqL.of (e _ _ h1), SqL.of (e _ _ h2), by rw [List.getElem?_eq_getElem], by rw [List.getElem?_eq_getElem]⟩
      · rw [zip_len] at hi
        rw [r.len, r'.len]
        omega
      · obtain ⟨T, x', y', rfl, hT, rfl, hx, hy⟩ := y
        have g1 := hx vx (SqL.of (e _ _ h1))
        have g3 := hy vy (SqL.of (e _ _ h2))
        obtain ⟨dx, dy, e1, e2, rfl⟩ := zip_get hd
        obtain ⟨dx', e3, rx⟩ := r.getV g1
        obtain ⟨dy', e4, ry⟩ := r'.getV g3
        rw [e1] at e3
        rw [e2] at e4
        cases e3
        cases e4
        exact ⟨_, Px.new2 s2 hT, .pr upd_same ((rx.mono g2).mono (same_new (s2.free hT))) ((ry.mono g2).mono (same_new (s2.free hT)))⟩
/-! ### list(range(n)), tuple(range(..)) -/
theorem rgV_nats (lo n : Nat) : rgV (lo : Int) ((lo + n : Nat) : Int) = (List.range' lo n).map fun i : Nat => V.int (i : Int) := by
  unfold rgV
  have e : (((lo + n : Nat) : Int) - (lo : Int)).toNat = n := by omega
  rw [e, List.range'_eq_map_range, List.map_map]
  refine List.map_congr_left fun i _ => ?_
  show V.int ((lo : Int) + (i : Int)) = V.int ((lo + i : Nat) : Int)
  rw [Int.natCast_add]
theorem rp_nats (G : Hp) (l : List Nat) : RpL G (l.map fun i : Nat => V.int (i : Int)) (natsD l) := by
  induction l with
  | nil => exact .nil
  | cons a l ih => exact .cons (.int _) ih
theorem f_lstRg {n : Nat} (h : EvE te ρ (natD n)) (hn : n ≤ 100000) : EvF (tLstRg (tRg1 te)) ρ (mlist (natsD (List.range n))) := fun σ H G k Q q => h σ H G k _ fun v H1 G1 x1 r1 => by
  have e := r1.intV
  subst e
  refine ⟨(n : Int), rfl, RgOk.of_le (by omega) (by omega) (by omega) (by omega), fun p hp => ?_⟩
  have e2 := rgV_nats 0 n
  rw [Nat.zero_add, ← List.range_eq_range'] at e2
  exact q p _ _ G1 (x1.trans (Px.new x1.s hp)) (x1.h.free hp) upd_same (x1.s.free hp) ⟨_, rfl, by rw [show rgV 0 (n : Int) = _ from e2]; exact rp_nats _ _⟩
theorem e_tupRg {n : Nat} (h : EvE te ρ (natD n)) (hn : n ≤ 100000) : EvE (tTupRgN (tRg1 te)) ρ (natsT (List.range n)) := fun σ H G k Q q => h σ H G k _ fun v H1 G1 x1 r1 => by
  have e := r1.intV
  subst e
  refine ⟨(n : Int), rfl, RgOk.of_le (by omega) (by omega) (by omega) (by omega), fun p u hp hu => ?_⟩
  have e2 := rgV_nats 0 n
  rw [Nat.zero_add, ← List.range_eq_range'] at e2
  rw [show rgV 0 (n : Int) = _ from e2] at hu
  exact q _ _ _ (x1.trans (Px.new2 x1.s hp)) (.tup upd_same hu (rp_nats _ _))
theorem e_tupRg2 {lo n : Nat} (h : EvE ta ρ (natD lo)) (h2 : EvE tb ρ (natD (lo + n))) (hn : lo + n ≤ 100000) : EvE (tTupRgN (tRg2 ta tb)) ρ (natsT (List.range' lo n)) := fun σ H G k Q q => h σ H G k _ fun v H1 G1 x1 r1 => h2 σ H1 G1 (k.px x1) _ fun v2 H2 G2 x2 r2 => by
  have e := r1.intV
  have e3 := r2.intV
  subst e e3
  refine ⟨(lo : Int), ((lo + n : Nat) : Int), rfl, rfl, RgOk.of_le (by omega) (by omega) (by omega) (by omega), fun p u hp hu => ?_⟩
  rw [rgV_nats] at hu
  exact q _ _ _ ((x1.trans x2).trans (Px.new2 x2.s hp)) (.tup upd_same hu (rp_nats _ _))
/-! ### slices -/
def EvO (to : TO) (ρ : Rho) (o : Option Int) : Prop := ∀ σ H G, Ok σ H G ρ → ∀ Q : Option Int → Hp → Prop, (∀ H' G', Px H G H' G' → Q o H') → to σ H Q
theorem eo_none : EvO tNoPart ρ none := fun σ H G k Q q => q H G (Px.refl k.sub)
theorem eo_int {i : Int} (h : EvE te ρ (.int i)) : EvO (tPart te) ρ (some i) := fun σ H G k Q q => h σ H G k _ fun v H1 G1 x1 r1 => ⟨i, r1.intV, q H1 G1 x1⟩
def cutD (xs : List D) (lo hi : Option Int) : List D := (xs.drop (HT.sIx xs.length 0 lo)).take (HT.sIx xs.length xs.length hi - HT.sIx xs.length 0 lo)
theorem f_slL {tlo thi : TO} {lo hi : Option Int} (h : EvE te ρ (.list xs)) (h1 : EvO tlo ρ lo) (h2 : EvO thi ρ hi) : EvF (tSl (rSlL K) te tlo thi) ρ (mlist (cutD xs lo hi)) := fun σ H G k Q q =>
  h σ H G k _ fun v H1 G1 x1 r1 => h1 σ H1 G1 (k.px x1) _ fun H2 G2 x2 => h2 σ H2 G2 (k.px (x1.trans x2)) _ fun H3 G3 x3 => by
    obtain ⟨a, vs, rfl, ha, r⟩ := (r1.mono (x2.trans x3).g).lstV
    have x := (x1.trans x2).trans x3
    exact ⟨a, vs, rfl, SqL.of (x.s _ _ ha), fun p hp => q p _ _ G3 (x.trans (Px.new x.s hp)) (x.h.free hp) upd_same (x.s.free hp) ⟨_, rfl, r.cut lo hi⟩⟩
theorem e_slN {tlo thi : TO} {lo hi : Option Int} (h : EvE te ρ (.tuple xs)) (h1 : EvO tlo ρ lo) (h2 : EvO thi ρ hi) : EvE (tSl (rSlN K) te tlo thi) ρ (.tuple (cutD xs lo hi)) := fun σ H G k Q q =>
  h σ H G k _ fun v H1 G1 x1 r1 => h1 σ H1 G1 (k.px x1) _ fun H2 G2 x2 => h2 σ H2 G2 (k.px (x1.trans x2)) _ fun H3 G3 x3 => by
    obtain ⟨a, u, vs, rfl, ha, hu, r⟩ := (r1.mono (x2.trans x3).g).tupV
    have x := (x1.trans x2).trans x3
    refine ⟨a, vs, rfl, sqt_seal (x.s _ _ ha) hu, fun e => ?_, fun _ p w hp hw => q _ _ _ (x.trans (Px.new2 x.s hp)) (.tup upd_same hw ((r.cut lo hi).mono (same_new (x.s.free hp))))⟩
    have ec : cutD xs lo hi = xs := by
      unfold cutD
      rw [← r.len, e.1, e.2, List.drop_zero, r.len]
      exact List.take_length
    rw [ec] at q
    exact q _ H3 G3 x (.tup ha hu r)
theorem e_revN (h : EvE te ρ (.tuple xs)) : EvE (tRevN K te) ρ (.tuple xs.reverse) := fun σ H G k Q q =>
  h σ H G k _ fun v H1 G1 x1 r1 => by
    obtain ⟨a, u, vs, rfl, ha, hu, r⟩ := r1.tupV
    exact ⟨a, vs, rfl, sqt_seal (x1.s _ _ ha) hu, fun p w hp hw => q _ _ _ (x1.trans (Px.new2 x1.s hp)) (.tup upd_same hw (r.rev.mono (same_new (x1.s.free hp))))⟩
/-! ### t.index(k) -/
theorem e_idx {l : List Nat} {k : Nat} (h : EvE ta ρ (natsT l)) (h2 : EvE tb ρ (natD k)) (hk : k ∈ l) : EvE (tIdx ta tb) ρ (natD (l.idxOf k)) := fun σ H G kk Q q =>
  h σ H G kk _ fun v H1 G1 x1 r1 => by
    obtain ⟨a, u, vs, rfl, ha, hu, r⟩ := r1.tupV
    rw [natsD_ints] at r
    have e := r.ints
    subst e
    refine ⟨a, u, _, rfl, x1.s _ _ ha, hu, h2 σ H1 G1 (kk.px x1) _ fun y H2 G2 x2 r2 => ?_⟩
    have e2 := r2.intV
    subst e2
    have hl := List.idxOf_lt_length_of_mem hk
    refine ⟨(k : Int), l.idxOf k, rfl, x2.h _ _ (x1.s _ _ ha), ?_, fun m hm hc => ?_, q _ H2 G2 (x1.trans x2) (.int _)⟩
    · rw [List.getElem?_map, List.getElem?_eq_getElem hl, List.getElem_idxOf]
      rfl
    · rw [List.getElem?_map] at hc
      cases e3 : l[m]? with
      | none => rw [e3] at hc; cases hc
      | some j =>
        rw [e3] at hc
        have e4 : ((j : Nat) : Int) = (k : Int) := Option.some.inj hc
        have e5 : j = k := by omega
        subst e5
        obtain ⟨hml, e6⟩ := List.getElem?_eq_some_iff.mp e3
        have := List.not_of_lt_findIdx (p := fun x => x == j) (xs := l) hm
        simp [e6] at this
/-! ### values by a call, when the argument is told by a property -/
theorem p_cb1 {r : List V → Hp → VK → Prop} {P1 P2 : D → Prop} (h : EvP te ρ P1) (hc : ∀ x, P1 x → ∃ z, CbD r [x] z ∧ P2 z) : EvP (tCB r (tCons te tNil)) ρ P2 := fun σ H G k Q q =>
  h σ H G k _ fun v d H1 G1 x1 r1 p1 => by
    obtain ⟨z, c, p2⟩ := hc d p1
    exact c H1 G1 [v] x1.s (.cons (.inl r1) .nil) Q fun w' H2 G2 x2 r2 => q w' z H2 G2 (x1.trans x2) r2 p2
end
end Lw
set_option Elab.async false
set_option linter.all false
set_option maxRecDepth 100000
set_option maxHeartbeats 1000000
namespace Lw
open PySem PySem.Spec PyProof.Rows L2
/-! ### lists without repeats -/
def dd : List Nat → List Nat
  | [] => []
  | a :: l => if a ∈ l then dd l else a :: dd l
theorem dd_mem : ∀ {l : List Nat} {x : Nat}, x ∈ dd l ↔ x ∈ l
  | [], x => Iff.rfl
  | a :: l, x => by
    unfold dd
    by_cases h : a ∈ l
    · rw [if_pos h, dd_mem, List.mem_cons]
      exact ⟨.inr, fun z => z.elim (fun e => by rw [e]; exact h) id⟩
    · rw [if_neg h, List.mem_cons, List.mem_cons, dd_mem]
theorem dd_nodup : ∀ l : List Nat, (dd l).Nodup
  | [] => List.nodup_nil
  | a :: l => by
    unfold dd
    by_cases h : a ∈ l
    · rw [if_pos h]; exact dd_nodup l
    · rw [if_neg h]; exact List.nodup_cons.mpr ⟨fun z => h (dd_mem.mp z), dd_nodup l⟩
theorem dd_le : ∀ l : List Nat, (dd l).length ≤ l.length
  | [] => Nat.le_refl _
  | a :: l => by
    unfold dd
    have := dd_le l
    by_cases h : a ∈ l
    · rw [if_pos h, List.length_cons]; omega
    · rw [if_neg h, List.length_cons, List.length_cons]; omega
theorem dd_len : ∀ {l : List Nat}, (dd l).length = l.length ↔ l.Nodup
  | [] => by simp [dd]
  | a :: l => by
    unfold dd
    have h1 := dd_le l
    by_cases h : a ∈ l
    · rw [if_pos h, List.length_cons]
      exact ⟨fun e => by omega, fun e => absurd h (List.nodup_cons.mp e).1⟩
    · rw [if_neg h, List.length_cons, List.length_cons, List.nodup_cons]
      have ih := dd_len (l := l)
      exact ⟨fun e => ⟨h, ih.mp (by omega)⟩, fun e => by rw [ih.mpr e.2]⟩
theorem nd_len {l m : List Nat} (h1 : l.Nodup) (h2 : m.Nodup) (h : ∀ x, x ∈ l ↔ x ∈ m) : l.length = m.length :=
  Nat.le_antisymm (sub_len h1 fun x => (h x).mp) (sub_len h2 fun x => (h x).mpr)
/-- whole numbers, told by natural ones -/
theorem int_list {l : List Nat} : ∀ {ys : List Int}, (∀ y, y ∈ ys → y ∈ l.map fun n : Nat => (n : Int)) → ys = (ys.map Int.toNat).map fun n : Nat => (n : Int)
  | [], _ => rfl
  | y :: ys, h => by
    obtain ⟨n, _, rfl⟩ := List.mem_map.mp (h y List.mem_cons_self)
    have ih := int_list (l := l) (ys := ys) fun y hy => h y (List.mem_cons_of_mem _ hy)
    rw [List.map_cons, List.map_cons, ← ih]
    rfl
theorem mem_cast {l : List Nat} {n : Nat} : ((n : Nat) : Int) ∈ (l.map fun n : Nat => (n : Int)) ↔ n ∈ l := by
  rw [List.mem_map]
  constructor
  · rintro ⟨m, hm, e⟩
    have : m = n := by omega
    rw [← this]; exact hm
  · intro h
    exact ⟨n, h, rfl⟩
theorem asc_int {l zs : List Nat} {ys : List Int} (hs : ys.Pairwise (· < ·)) (hm : ∀ k, k ∈ ys ↔ k ∈ l.map fun n : Nat => (n : Int)) (hz : zs.Pairwise (· < ·)) (hzm : ∀ x, x ∈ zs ↔ x ∈ l) : ys = zs.map fun n : Nat => (n : Int) := by
  have e := int_list (l := l) (ys := ys) fun y hy => (hm y).mp hy
  rw [e] at hs hm ⊢
  congr 1
  refine sorted_eq ?_ hz fun x => ?_
  · rw [List.pairwise_map] at hs
    exact hs.imp fun h => by omega
  · have := hm (x : Int)
    rw [mem_cast, mem_cast] at this
    rw [this, hzm]
theorem asc_perm {l zs : List Nat} {ys : List Int} (nd : l.Nodup) (hp : ys.Perm (l.map fun n : Nat => (n : Int))) (hs : ys.Pairwise (· ≤ ·)) (hz : zs.Pairwise (· < ·)) (hzm : ∀ x, x ∈ zs ↔ x ∈ l) : ys = zs.map fun n : Nat => (n : Int) := by
  have nd' : (l.map fun n : Nat => (n : Int)).Nodup := by
    unfold List.Nodup at nd ⊢
    rw [List.pairwise_map]
    exact nd.imp fun h => by omega
  have ndy : ys.Nodup := (hp.nodup_iff).mpr nd'
  refine asc_int (l := l) ?_ (fun k => hp.mem_iff) hz hzm
  exact (hs.and ndy).imp fun h => by have := h.1; have := h.2; omega
section
variable {K : PySem.W.Frag} {ρ : Rho} {te ta tb tc tl : TE} {tt tu : TT} {ts tr : TA} {d x y z : D} {xs ys ds : List D} {w : Own} {t u : TS} {P : De}
theorem ints_nats (l : List Nat) : (l.map fun n : Nat => (n : Int)).map V.int = l.map fun i : Nat => V.int (i : Int) := by
  rw [List.map_map]
  rfl
theorem vs_nats {G : Hp} {vs : List V} {l : List Nat} (r : RpL G vs (natsD l)) : vs = (l.map fun n : Nat => (n : Int)).map V.int := by
  rw [natsD_ints] at r
  exact r.ints
/-! ### sorted -/
theorem c_sortI {l zs : List Nat} (e : seqD (natsD l) x) (nd : l.Nodup) (h64 : l.length < 64) (hz : zs.Pairwise (· < ·)) (hzm : ∀ x, x ∈ zs ↔ x ∈ l) : CbF (rSortIQ K) [x] (mlist (natsD zs)) := fun H G vs s b Q q => by
  obtain ⟨v, rfl, b1⟩ := b.one
  obtain ⟨a, xs, rfl, h, r⟩ := b1.seq (K := K) s e
  have ev := vs_nats r
  subst ev
  refine ⟨a, _, rfl, h, by rw [List.length_map]; exact h64, fun ys p hp hs hn => ?_⟩
  have ey := asc_perm nd hp hs hz hzm
  subst ey
  exact q p _ _ G (Px.new s hn) hn upd_same (s.free hn) ⟨_, rfl, by rw [ints_nats]; exact rp_nats _ _⟩
/-- the set of a list, ascending -/
theorem f_sortSet {l zs : List Nat} (h : EvB te ρ x) (e : seqD (natsD l) x) (h64 : l.length < 64) (hz : zs.Pairwise (· < ·)) (hzm : ∀ x, x ∈ zs ↔ x ∈ l) : EvF (tSortSet K te) ρ (mlist (natsD zs)) := fun σ H G k Q q =>
  h σ H G k _ fun v H1 G1 x1 b1 => by
    obtain ⟨a, xs, rfl, h, r⟩ := b1.seq (K := K) x1.s e
    have ev := vs_nats r
    subst ev
    refine ⟨a, _, rfl, h, by rw [List.length_map]; exact h64, fun ys p hs hm hn => ?_⟩
    have ey := asc_int hs hm hz hzm
    subst ey
    exact q p _ _ G1 (x1.trans (Px.new x1.s hn)) (x1.h.free hn) upd_same (x1.s.free hn) ⟨_, rfl, by rw [ints_nats]; exact rp_nats _ _⟩
theorem e_lenSet {l : List Nat} (h : EvB te ρ x) (e : seqD (natsD l) x) (h64 : l.length < 64) : EvE (tLenSet K te) ρ (natD (dd l).length) := fun σ H G k Q q =>
  h σ H G k _ fun v H1 G1 x1 b1 => by
    obtain ⟨a, xs, rfl, h, r⟩ := b1.seq (K := K) x1.s e
    have ev := vs_nats r
    subst ev
    refine ⟨a, _, rfl, h, by rw [List.length_map]; exact h64, fun ms nd hm => ?_⟩
    have em := int_list (l := l) (ys := ms) fun y hy => (hm y).mp hy
    have e2 : ms.length = (dd l).length := by
      rw [em, List.length_map]
      refine nd_len ?_ (dd_nodup l) fun x => ?_
      · rw [em] at nd
        unfold List.Nodup at nd ⊢
        rw [List.pairwise_map] at nd
        exact nd.imp fun h e => h (by rw [e])
      · have := hm (x : Int)
        rw [em, mem_cast, mem_cast] at this
        rw [this, dd_mem]
    rw [e2]
    exact q _ H1 G1 x1 (.int _)
/-- pairs, in some order -/
theorem rp_pairs_back {G : Hp} : ∀ {ys vs : List V} {as : List (Nat × Nat)}, ys.Perm vs → RpL G vs (as.map pairD) → ∃ bs : List (Nat × Nat), bs.Perm as ∧ RpL G ys (bs.map pairD) := by
  intro ys vs as hp
  induction hp generalizing as with
  | nil => intro r; cases as with
    | nil => exact ⟨[], List.Perm.refl _, .nil⟩
    | cons a as => cases r
  | cons x p ih =>
    intro r
    cases as with
    | nil => cases r
    | cons a as =>
      cases r with
      | cons h r =>
        obtain ⟨bs, h1, h2⟩ := ih r
        exact ⟨a :: bs, h1.cons a, .cons h h2⟩
  | swap x y l =>
    intro r
    cases as with
    | nil => cases r
    | cons a as =>
      cases r with
      | cons h r =>
        cases as with
        | nil => cases r
        | cons b as =>
          cases r with
          | cons h2 r => exact ⟨b :: a :: as, List.Perm.swap a b as, .cons h2 (.cons h r)⟩
  | trans p1 p2 ih1 ih2 =>
    intro r
    obtain ⟨bs, h1, h2⟩ := ih2 r
    obtain ⟨cs, h3, h4⟩ := ih1 h2
    exact ⟨cs, h3.trans h1, h4⟩
theorem rp_pair_tup {K : PySem.W.Frag} {H G : Hp} (s : Same G H) {v : V} {p : Nat × Nat} (r : Rp G v (pairD p)) : TupI K H v [(p.1 : Int), (p.2 : Int)] := by
  obtain ⟨a, w, z, rfl, h, r1, r2⟩ := r.prV
  have e1 := r1.intV
  have e2 := r2.intV
  subst e1 e2
  exact ⟨a, rfl, SqT.of (s _ _ h)⟩
theorem rpl_mem {G : Hp} : ∀ {vs : List V} {as : List (Nat × Nat)} {v : V}, RpL G vs (as.map pairD) → v ∈ vs → ∃ p, p ∈ as ∧ Rp G v (pairD p)
  | _, [], _, r, h => by cases r; simp at h
  | _, a :: as, v, .cons h1 r, h => by
    rcases List.mem_cons.mp h with e | h
    · subst e; exact ⟨a, List.mem_cons_self, h1⟩
    · obtain ⟨p, hp, rp⟩ := rpl_mem r h
      exact ⟨p, List.mem_cons_of_mem _ hp, rp⟩
theorem p_sortP {as : List (Nat × Nat)} (h : EvB te ρ (.list (as.map pairD))) (h64 : as.length < 64) (hb : ∀ p, p ∈ as → p.1 < 1000 ∧ p.2 < 1000) : EvP (tCB (rSortPQ K) (tCons te tNil)) ρ fun r => ∃ bs : List (Nat × Nat), bs.Perm as ∧ r = .list (bs.map pairD) := fun σ H G k Q q =>
  h σ H G k _ fun v H1 G1 x1 b1 => by
    obtain ⟨a, xs, rfl, h, r⟩ := b1.lstV x1.s
    refine ⟨a, xs, 2, 1000, rfl, SqL.of h, by rw [r.len, List.length_map]; exact h64, by decide, fun x hx => ?_, fun ys p hp hn => ?_⟩
    · obtain ⟨p, hp, rp⟩ := rpl_mem r hx
      have hb := hb p hp
      exact ⟨_, rp_pair_tup x1.s rp, rfl, fun z hz => by
        rcases List.mem_cons.mp hz with e | hz
        · subst e; omega
        · rcases List.mem_cons.mp hz with e | hz
          · subst e; omega
          · simp at hz⟩
    · obtain ⟨bs, h1, h2⟩ := rp_pairs_back hp r
      exact q _ _ _ _ (x1.trans (Px.new2 x1.s hn)) (.lst upd_same (h2.mono (same_new (x1.s.free hn)))) ⟨bs, h1, rfl⟩
/-! ### star -/
theorem s_star (h : EvE te ρ x) (e : seqD xs x) (hr : EvS ts ρ ys) : EvS (StX.tStar K te ts) ρ (xs ++ ys) := fun σ H G k Q q =>
  h σ H G k _ fun v H1 G1 x1 b1 => by
    obtain ⟨a, vs, rfl, h, r⟩ := Bq.seq (K := K) x1.s (.inl b1) e
    exact ⟨a, vs, rfl, h.symm, hr σ H1 G1 (k.px x1) _ fun ws H2 G2 x2 r2 => q _ H2 G2 (x1.trans x2) ((r.mono x2.g).app r2)⟩
/-! ### dicts of places -/
/-- a dict by natural numbers: what it answers -/
def mdictF (lk : Nat → Option Nat) : Own := ⟨fun _ _ o => ∃ kvs : List (Key × V), o = .dK kvs ∧ ∀ k : Nat, valV kvs (Sum.inl (k : Int)) = (lk k).map fun v : Nat => V.int (v : Int), fun _ h => h, fun ⟨_, h, _⟩ => by rw [h]; exact isT_dK⟩
def putF (lk : Nat → Option Nat) (p : Nat × Nat) : Nat → Option Nat := fun j => if j = p.1 then some p.2 else lk j
theorem valV_putN {kvs : List (Key × V)} {lk : Nat → Option Nat} (h : ∀ k : Nat, valV kvs (Sum.inl (k : Int)) = (lk k).map fun v : Nat => V.int (v : Int)) (p : Nat × Nat) (k : Nat) :
    valV (putK kvs (Sum.inl (p.1 : Int)) (V.int (p.2 : Int))) (Sum.inl (k : Int)) = (putF lk p k).map fun v : Nat => V.int (v : Int) := by
  rw [valV_put]
  unfold putF
  by_cases e : k = p.1
  · rw [if_pos (by rw [e]), if_pos e]
    rfl
  · rw [if_neg (fun z => e (by have := Sum.inl.inj z; omega)), if_neg e, h]
theorem f_dc {α : Type} {wi : TI} {g : TG} {tk tv : TE} {vs : List Nat} (ys : List α) (enc : α → D) (b : α → Bool) (f : α → Nat × Nat) (hs : Iter wi ρ (ys.map enc))
    (hb : ∀ y, y ∈ ys → BndC g vs ρ (enc y) fun ρ2 => EvT tt ρ2 (b y) ∧ (b y = true → EvE tk ρ2 (natD (f y).1) ∧ EvE tv ρ2 (natD (f y).2))) (hl : ys.length ≤ 50000) : EvF (tDc wi g tt tk tv vs) ρ (mdictF (((ys.filter b).map f).foldl putF fun _ => none)) := fun σ H G k Q q =>
  hs σ H G k _ fun J H1 G1 x1 yl Dl hD => by
    have hDH : H Dl = Option.none := x1.h.free hD
    refine ⟨fun i m H' => m = ys.length - i ∧ i ≤ ys.length ∧ ∃ (G' : Hp) (acc : List (Key × V)), Px H G H' G' ∧ Same H1 H' ∧ Same G1 G' ∧ G' Dl = Option.none ∧ H' Dl = some (.dK acc) ∧ acc.length ≤ i ∧ ∀ k : Nat, valV acc (Sum.inl (k : Int)) = ((((ys.take i).filter b).map f).foldl putF (fun _ => none) k).map fun v : Nat => V.int (v : Int),
      ⟨ys.length, by simp, Nat.zero_le _, G1, [], x1.trans (Px.new x1.s hD), same_new hD, Same.refl G1, x1.s.free hD, upd_same, Nat.zero_le _, fun _ => rfl⟩, ?_⟩
    rintro i m H' ⟨rfl, hi, G', acc, x', h1', g1', gD, hDl, hal, hacc⟩
    by_cases hlt : i < ys.length
    · refine .inr ⟨yl.go i H' h1' (by rw [List.length_map]; exact hlt), fun H2 => ∃ (G2 : Hp) (acc2 : List (Key × V)), Px H G H2 G2 ∧ Same H1 H2 ∧ Same G1 G2 ∧ G2 Dl = Option.none ∧ H2 Dl = some (.dK acc2) ∧ acc2.length ≤ i + 1 ∧ ∀ k : Nat, valV acc2 (Sum.inl (k : Int)) = ((((ys.take (i + 1)).filter b).map f).foldl putF (fun _ => none) k).map fun v : Nat => V.int (v : Int),
        fun H2 hN => ⟨ys.length - (i + 1), by omega, rfl, hlt, hN⟩, fun x H'' hy => ?_⟩
      have hget : ys[i]? = some ys[i] := List.getElem?_eq_getElem hlt
      obtain ⟨G3, x3, r3⟩ := yl.yld i H' x H'' (enc ys[i]) h1' (by rw [List.getElem?_map, hget]; rfl) hy G' g1' x'.s
      have x13 := x'.trans x3
      have keepD : ∀ {Ha Ga Hb Gb : Hp}, Px Ha Ga Hb Gb → Ga Dl = Option.none → Ha Dl = some (.dK acc) → Gb Dl = Option.none := fun {Ha Ga Hb Gb} p g1 h1 => by
        cases e : Gb Dl with
        | none => rfl
        | some u =>
          rcases p.n Dl g1 (by rw [e]; exact fun z => nomatch z) with z | ⟨y, z, tt⟩
          · rw [h1] at z
            cases z
          · have e1 := p.s _ _ z
            rw [p.h _ _ h1] at e1
            rw [← Option.some.inj e1] at tt
            exact absurd tt isT_dK
      have gD3 := keepD x3 gD hDl
      have hD3 := x3.h _ _ hDl
      refine hb ys[i] (List.getElem_mem hlt) σ H'' G3 (k.px x13) x r3 _ fun σ2 ρ2 hw k2 hp => ⟨hw, hp.1 σ2 H'' G3 k2 _ fun H4 G4 x4 => ?_⟩
      have gD4 := keepD x4 gD3 hD3
      have hD4 := x4.h _ _ hD3
      cases hby : b ys[i] with
      | false =>
        rw [if_neg Bool.false_ne_true]
        refine ⟨G4, acc, x13.trans x4, (h1'.trans x3.h).trans x4.h, (g1'.trans x3.g).trans x4.g, gD4, hD4, by omega, ?_⟩
        rw [filter_take b ys hlt, if_neg (by rw [hby]; exact Bool.false_ne_true), List.append_nil]
        exact hacc
      | true =>
        rw [if_pos rfl]
        refine (hp.2 hby).1 σ2 H4 G4 (k2.px x4) _ fun v H5 G5 x5 r5 => ?_
        have gD5 := keepD x5 gD4 hD4
        have hD5 := x5.h _ _ hD4
        refine (hp.2 hby).2 σ2 H5 G5 ((k2.px x4).px x5) _ fun v2 H6 G6 x6 r6 => ?_
        have gD6 := keepD x6 gD5 hD5
        have hD6 := x6.h _ _ hD5
        have x16 := ((x13.trans x4).trans x5).trans x6
        have e5 := r5.intV
        have e6 := r6.intV
        subst e5 e6
        refine ⟨acc, Sum.inl ((f ys[i]).1 : Int), rfl, hD6, ?_, G6, _, ⟨fun a o e => ?_, x16.g, fun a o e => ?_, x16.n⟩, ?_, (((g1'.trans x3.g).trans x4.g).trans x5.g).trans x6.g, gD6, upd_same, ?_, ?_⟩
        · exact Nat.lt_of_le_of_lt hal (Nat.lt_of_lt_of_le hlt (Nat.le_trans hl (by decide)))
        · rw [upd_ne (ne_of_none e hDH)]
          exact x16.h a o e
        · rw [upd_ne (ne_of_none e gD6)]
          exact x16.s a o e
        · intro a o e
          rw [upd_ne (ne_of_none e hD)]
          exact x6.h _ _ (x5.h _ _ (x4.h _ _ (x3.h _ _ (h1' _ _ e))))
        · have := length_putK acc (Sum.inl ((f ys[i]).1 : Int)) (V.int ((f ys[i]).2 : Int))
          omega
        · intro k'
          rw [filter_take b ys hlt, if_pos hby, List.map_append, List.foldl_append]
          exact valV_putN hacc (f ys[i]) k'
    · have e : i = ys.length := by omega
      subst e
      rw [List.take_length] at hacc
      exact .inl ⟨yl.stop _ H' h1' (by rw [List.length_map]; exact Nat.le_refl _), q Dl _ H' G' x' hDH hDl gD ⟨acc, rfl, hacc⟩⟩
theorem e_din {lk : Nat → Option Nat} {i k : Nat} (hi : ρ[i]? = some (some (.o (mdictF lk)))) (h : EvE te ρ (natD k)) : EvE (tDIn te (tVar i)) ρ (.bool (lk k).isSome) := fun σ H G kk Q q =>
  h σ H G kk _ fun v H1 G1 x1 r1 => by
    obtain ⟨a, o, h1, h2, h3, kvs, rfl, hv⟩ := (kk.px x1).o hi
    have e := r1.intV
    subst e
    refine ⟨.ref a, h1, a, _, rfl, DGet.k (k := Sum.inl (k : Int)) h2, ?_⟩
    rw [hv, Option.isSome_map]
    exact q _ H1 G1 x1 (.bl _)
theorem e_dnotin {lk : Nat → Option Nat} {i k : Nat} (hi : ρ[i]? = some (some (.o (mdictF lk)))) (h : EvE te ρ (natD k)) : EvE (tDNotIn te (tVar i)) ρ (.bool (!(lk k).isSome)) := fun σ H G kk Q q =>
  h σ H G kk _ fun v H1 G1 x1 r1 => by
    obtain ⟨a, o, h1, h2, h3, kvs, rfl, hv⟩ := (kk.px x1).o hi
    have e := r1.intV
    subst e
    refine ⟨.ref a, h1, a, _, rfl, DGet.k (k := Sum.inl (k : Int)) h2, ?_⟩
    rw [hv, Option.isSome_map]
    exact q _ H1 G1 x1 (.bl _)
theorem e_dget {lk : Nat → Option Nat} {i k f : Nat} (hi : ρ[i]? = some (some (.o (mdictF lk)))) (h : EvE te ρ (natD k)) (hf : lk k = some f) : EvE (tDGet (tVar i) te) ρ (natD f) := fun σ H G kk Q q => by
  obtain ⟨a, o, h1, h2, h3, kvs, rfl, hv⟩ := kk.o hi
  refine ⟨.ref a, h1, h σ H G kk _ fun v H1 G1 x1 r1 => ?_⟩
  have e := r1.intV
  subst e
  have hg := DGet.k (k := Sum.inl (k : Int)) (x1.h _ _ h2)
  rw [hv, hf] at hg
  exact ⟨a, _, rfl, hg, q _ H1 G1 x1 (.int _)⟩
/-! ### list.remove, list.pop -/
theorem erase_map {α β : Type} (f : α → β) : ∀ (l : List α) (j : Nat), (l.map f).eraseIdx j = (l.eraseIdx j).map f
  | [], _ => rfl
  | _ :: _, 0 => rfl
  | a :: l, j + 1 => by
    rw [List.map_cons, List.eraseIdx_cons_succ, List.eraseIdx_cons_succ, List.map_cons, erase_map f l j]
theorem r_rem {l : List Nat} {i k : Nat} (hi : ρ[i]? = some (some (.o (mlist (natsD l))))) (h : EvE te ρ (natD k)) (hk : k ∈ l) (p : P.nx (ρ.set i (some (.o (mlist (natsD (l.eraseIdx (l.idxOf k)))))))) :
    RunS (tDrop (tBM K "list" rRemI (tVar i) (tCons te tNil))) ρ P := fun σ H G kk D q1 q2 q3 q4 => by
  obtain ⟨a, o, h1, h2, h3, vs, rfl, r⟩ := kk.o hi
  refine ⟨.ref a, h1, .inl ⟨rfl, vs, SqL.of h2⟩, ?_⟩
  refine h σ H G kk _ fun v H1 G1 x1 r1 => ?_
  have k1 := kk.px x1
  have e := r1.intV
  have ev := vs_nats r
  subst e ev
  have hl := List.idxOf_lt_length_of_mem hk
  refine ⟨a, _, (k : Int), l.idxOf k, rfl, rfl, x1.h _ _ h2, ?_, fun m hm hc => ?_, ?_⟩
  · rw [List.getElem?_map, List.getElem?_eq_getElem hl, List.getElem_idxOf]
    rfl
  · rw [List.getElem?_map] at hc
    cases e3 : l[m]? with
    | none => rw [e3] at hc; cases hc
    | some j =>
      rw [e3] at hc
      have e4 : ((j : Nat) : Int) = (k : Int) := Option.some.inj hc
      have e5 : j = k := by omega
      subst e5
      obtain ⟨hml, e6⟩ := List.getElem?_eq_some_iff.mp e3
      have := List.not_of_lt_findIdx (p := fun x => x == j) (xs := l) hm
      simp [e6] at this
  · obtain ⟨a', o', g1, g2, g3, _⟩ := k1.o hi
    have ea : a' = a := by
      rw [h1] at g1
      exact (V.ref.inj (Option.some.inj (Option.some.inj g1))).symm
    subst ea
    have ee : ((l.map fun n : Nat => (n : Int)).eraseIdx (l.idxOf k)).map V.int = (l.eraseIdx (l.idxOf k)).map fun i : Nat => V.int (i : Int) := by
      rw [erase_map, ints_nats]
    rw [ee]
    exact q1 σ _ _ G1 (((Te.of x1).trans (te_chg k1 hi h1)).tr) (k1.chg (w' := mlist (natsD (l.eraseIdx (l.idxOf k)))) hi h1 g3 ⟨_, rfl, rp_nats _ _⟩) p
theorem z_popAt {Pz : Rho → D → Prop} {i : Nat} (h : EvZ te ρ fun ρ' x => ∃ (ds : List D) (n : Nat) (z : D), x = natD n ∧ n < 100000 ∧ ρ[i]? = some (some (.o (mlist ds))) ∧ ρ'[i]? = some (some (.o (mlist ds))) ∧ ds[n]? = some z ∧ Pz (ρ'.set i (some (.o (mlist (ds.eraseIdx n))))) z)
    (hi : ∃ ds, ρ[i]? = some (some (.o (mlist ds)))) : EvZ (tBM K "list" rPopAt (tVar i) (tCons te tNil)) ρ Pz := fun σ H G k Q q => by
  obtain ⟨ds0, hi⟩ := hi
  obtain ⟨a, o, h1, h2, h3, vs, rfl, r⟩ := k.o hi
  refine ⟨.ref a, h1, .inl ⟨rfl, vs, SqL.of h2⟩, ?_⟩
  refine h σ H G k _ fun v d ρ1 H1 G1 t1 k1 r1 ⟨ds, n, z, e, hn, e0, e1, hz, p⟩ => ?_
  subst e
  have ev := r1.intV
  subst ev
  obtain ⟨a', o', g1, g2, g3, vs', rfl, r'⟩ := k1.o e1
  have ea : a' = a := by
    rw [h1] at g1
    exact (V.ref.inj (Option.some.inj (Option.some.inj g1))).symm
  subst ea
  obtain ⟨vz, hvz, rz⟩ := r'.get hz
  have hlt := (List.getElem?_eq_some_iff.mp hvz).1
  refine ⟨a', vs', (n : Int), n, vz, rfl, rfl, g2, by omega, by omega, ?_, hvz, ?_⟩
  · unfold seqIndex?
    have e1 : ¬ ((n : Int) < 0) := by omega
    rw [if_neg e1]
    simp
    omega
  · exact q vz z _ _ G1 (t1.trans (te_chg k1 e1 h1)) (k1.chg (w' := mlist (ds.eraseIdx n)) e1 h1 g3 ⟨_, rfl, r'.erase n⟩) rz p
/-! ### a dict by pairs -/
def mpairs (ps : List (Nat × Nat)) : Own := ⟨fun _ _ o => ∃ kvs : List (List Key × V), o = .dT kvs ∧ kvs.map (·.1) = ps.map fun p => [Sum.inl (p.1 : Int), Sum.inl (p.2 : Int)], fun _ h => h, fun ⟨_, h, _⟩ => by rw [h]; exact isT_dT⟩
theorem f_dnew : EvF tDNewT ρ (mpairs []) := fun σ H G k Q q p hp => q p _ _ G (Px.new k.sub hp) hp upd_same (k.sub.free hp) ⟨[], rfl, rfl⟩
theorem keys_put {kvs : List (List Key × V)} {ps : List (Nat × Nat)} (h : kvs.map (·.1) = ps.map fun p => [Sum.inl (p.1 : Int), Sum.inl (p.2 : Int)]) (p : Nat × Nat) (v : V) :
    (putK kvs [Sum.inl (p.1 : Int), Sum.inl (p.2 : Int)] v).map (·.1) = (if p ∈ ps then ps else ps ++ [p]).map fun p => [Sum.inl (p.1 : Int), Sum.inl (p.2 : Int)] := by
  have inj : ∀ a b : Nat × Nat, ([Sum.inl (a.1 : Int), Sum.inl (a.2 : Int)] : List Key) = [Sum.inl (b.1 : Int), Sum.inl (b.2 : Int)] → a = b := fun a b e => by
    injection e with e1 e2
    injection e2 with e2 _
    have e1 := Sum.inl.inj e1
    have e2 := Sum.inl.inj e2
    exact Prod.ext (by omega) (by omega)
  have key : (kvs.any fun kv => decide (kv.1 = [Sum.inl (p.1 : Int), Sum.inl (p.2 : Int)])) = true ↔ p ∈ ps := by
    rw [List.any_eq_true]
    constructor
    · rintro ⟨kv, hm, e⟩
      have e := of_decide_eq_true e
      have hm2 : kv.1 ∈ kvs.map (·.1) := List.mem_map.mpr ⟨kv, hm, rfl⟩
      rw [h] at hm2
      obtain ⟨q, hq, e2⟩ := List.mem_map.mp hm2
      rw [e] at e2
      rw [← inj _ _ e2]
      exact hq
    · intro hp
      have hm2 : ([Sum.inl (p.1 : Int), Sum.inl (p.2 : Int)] : List Key) ∈ kvs.map (·.1) := by
        rw [h]
        exact List.mem_map.mpr ⟨p, hp, rfl⟩
      obtain ⟨kv, hm, e⟩ := List.mem_map.mp hm2
      exact ⟨kv, hm, decide_eq_true e⟩
  unfold putK
  by_cases hp : p ∈ ps
  · rw [if_pos (key.mpr hp), if_pos hp, List.map_map, ← h]
    refine List.map_congr_left fun kv _ => ?_
    show (if kv.1 = _ then (kv.1, v) else kv).1 = kv.1
    split <;> rfl
  · rw [if_neg (fun z => hp (key.mp z)), if_neg hp, List.map_append, List.map_append, h]
    rfl
theorem r_dput {i : Nat} {ps : List (Nat × Nat)} {p : Nat × Nat} (hi : ρ[i]? = some (some (.o (mpairs ps)))) (hv : EvE te ρ x) (hk : EvE ta ρ (pairD p)) (hl : ps.length < 10000) (hP : P.nx (ρ.set i (some (.o (mpairs (if p ∈ ps then ps else ps ++ [p])))))) :
    RunS (sDPut (tVar i) ta te) ρ P := fun σ H G k D q1 q2 q3 q4 =>
  hv σ H G k _ fun v H1 G1 x1 r1 => by
    have k1 := k.px x1
    obtain ⟨a, o, h1, h2, h3, kvs, rfl, hkv⟩ := k1.o hi
    refine ⟨.ref a, h1, hk σ H1 G1 k1 _ fun y H2 G2 x2 r2 => ?_⟩
    have k2 := k1.px x2
    obtain ⟨b, w, z, rfl, hb, rw1, rw2⟩ := r2.prV
    have e1 := rw1.intV
    have e2 := rw2.intV
    subst e1 e2
    obtain ⟨a', o', g1, g2, g3, _⟩ := k2.o hi
    have ea : a' = a := by
      rw [h1] at g1
      exact (V.ref.inj (Option.some.inj (Option.some.inj g1))).symm
    subst ea
    refine ⟨a', _, rfl, DPut.t (k := [Sum.inl (p.1 : Int), Sum.inl (p.2 : Int)]) (x2.h _ _ h2) (x2.s _ _ hb) ?_, ?_⟩
    · have := congrArg List.length hkv
      rw [List.length_map, List.length_map] at this
      rw [this]
      exact Nat.lt_of_lt_of_le hl (by decide)
    · exact q1 σ _ _ G2 (((Te.of (x1.trans x2)).trans (te_chg k2 hi h1)).tr) (k2.chg (w' := mpairs (if p ∈ ps then ps else ps ++ [p])) hi h1 g3 ⟨_, rfl, keys_put hkv p v⟩) hP
end
end Lw
set_option Elab.async false
set_option linter.all false
set_option maxRecDepth 100000
set_option maxHeartbeats 4000000
namespace Lw
open PySem PySem.Spec PyProof.Rows L2
def topS (i : Nat) : Stmt := PySem.Challenge.pw_leftwithout_k21_whole_orders_for_outcome.main.body.getD i (.Pass ⟨0, 0, 0, 0⟩)
abbrev s_is_number : Stmt := topS 5
abbrev s_is_from : Stmt := topS 6
abbrev s_is_within : Stmt := topS 7
abbrev s_is_long : Stmt := topS 8
abbrev s_tupled : Stmt := topS 9
abbrev s_set_of : Stmt := topS 10
abbrev s_is_guest_of : Stmt := topS 12
abbrev s_is_web : Stmt := topS 13
abbrev s_sure_web : Stmt := topS 14
abbrev s_sure_guest : Stmt := topS 15
abbrev s_is_row_in : Stmt := topS 17
abbrev s_is_order_in : Stmt := topS 18
abbrev s_is_taking_in : Stmt := topS 20
abbrev s_sure_taking : Stmt := topS 21
abbrev s_sure_held : Stmt := topS 22
abbrev s_holders_in : Stmt := topS 23
abbrev s_asked_in : Stmt := topS 24
abbrev s_arrows_in : Stmt := topS 25
abbrev s_lacking_in : Stmt := topS 26
abbrev s_order_in : Stmt := topS 27
abbrev s_is_outcome_in : Stmt := topS 28
abbrev s_is_along : Stmt := topS 29
abbrev s_is_outcome : Stmt := topS 30
abbrev s_order_of : Stmt := topS 31
abbrev s_is_order_of : Stmt := topS 32
abbrev s_behind_whom : Stmt := topS 33
abbrev s_l_box : Stmt := topS 35
abbrev s_l_take : Stmt := topS 36
abbrev s_l_cells : Stmt := topS 37
abbrev s_l_of : Stmt := topS 38
abbrev s_l_pick : Stmt := topS 39
abbrev s_l_lists : Stmt := topS 40
abbrev s_l_same : Stmt := topS 41
abbrev s_l_seat : Stmt := topS 42
abbrev s_l_run : Stmt := topS 43
abbrev s_l_arrows : Stmt := topS 44
abbrev s_l_net : Stmt := topS 45
abbrev s_l_walk : Stmt := topS 46
abbrev s_l_ahead_of : Stmt := topS 47
abbrev s_l_is_walk_of : Stmt := topS 48
abbrev s_l_along : Stmt := topS 49
abbrev s_l_busy_net : Stmt := topS 50
abbrev s_l_reply : Stmt := topS 51
abbrev s_l_by_hand_right : Stmt := topS 52
abbrev s_law : Stmt := topS 53
abbrev N_is_number : List Str := ["thing"]
abbrev P_is_number : List Str := ["thing"]
theorem sc_is_number : FnScope N_is_number P_is_number (defScope s_is_number) := ⟨rfl, rfl, rfl, by decide +kernel, rfl, by decide +kernel, by decide +kernel⟩
abbrev N_is_from : List Str := ["thing", "least"]
abbrev P_is_from : List Str := ["thing", "least"]
theorem sc_is_from : FnScope N_is_from P_is_from (defScope s_is_from) := ⟨rfl, rfl, rfl, by decide +kernel, rfl, by decide +kernel, by decide +kernel⟩
abbrev N_is_within : List Str := ["thing", "least", "most"]
abbrev P_is_within : List Str := ["thing", "least", "most"]
theorem sc_is_within : FnScope N_is_within P_is_within (defScope s_is_within) := ⟨rfl, rfl, rfl, by decide +kernel, rfl, by decide +kernel, by decide +kernel⟩
abbrev N_is_long : List Str := ["thing", "length"]
abbrev P_is_long : List Str := ["thing", "length"]
theorem sc_is_long : FnScope N_is_long P_is_long (defScope s_is_long) := ⟨rfl, rfl, rfl, by decide +kernel, rfl, by decide +kernel, by decide +kernel⟩
abbrev N_tupled : List Str := ["value", "own"]
abbrev P_tupled : List Str := ["value"]
theorem sc_tupled : FnScope N_tupled P_tupled (defScope s_tupled) := ⟨rfl, rfl, rfl, by decide +kernel, rfl, by decide +kernel, by decide +kernel⟩
abbrev N_set_of : List Str := ["row"]
abbrev P_set_of : List Str := ["row"]
theorem sc_set_of : FnScope N_set_of P_set_of (defScope s_set_of) := ⟨rfl, rfl, rfl, by decide +kernel, rfl, by decide +kernel, by decide +kernel⟩
abbrev N_is_guest_of : List Str := ["many", "thing", "own"]
abbrev P_is_guest_of : List Str := ["many", "thing"]
theorem sc_is_guest_of : FnScope N_is_guest_of P_is_guest_of (defScope s_is_guest_of) := ⟨rfl, rfl, rfl, by decide +kernel, rfl, by decide +kernel, by decide +kernel⟩
abbrev N_is_web : List Str := ["thing", "own"]
abbrev P_is_web : List Str := ["thing"]
theorem sc_is_web : FnScope N_is_web P_is_web (defScope s_is_web) := ⟨rfl, rfl, rfl, by decide +kernel, rfl, by decide +kernel, by decide +kernel⟩
abbrev N_sure_web : List Str := ["web", "own"]
abbrev P_sure_web : List Str := ["web"]
theorem sc_sure_web : FnScope N_sure_web P_sure_web (defScope s_sure_web) := ⟨rfl, rfl, rfl, by decide +kernel, rfl, by decide +kernel, by decide +kernel⟩
abbrev N_sure_guest : List Str := ["web", "guest"]
abbrev P_sure_guest : List Str := ["web", "guest"]
theorem sc_sure_guest : FnScope N_sure_guest P_sure_guest (defScope s_sure_guest) := ⟨rfl, rfl, rfl, by decide +kernel, rfl, by decide +kernel, by decide +kernel⟩
abbrev N_is_row_in : List Str := ["web", "thing", "own"]
abbrev P_is_row_in : List Str := ["web", "thing"]
theorem sc_is_row_in : FnScope N_is_row_in P_is_row_in (defScope s_is_row_in) := ⟨rfl, rfl, rfl, by decide +kernel, rfl, by decide +kernel, by decide +kernel⟩
abbrev N_is_order_in : List Str := ["web", "thing"]
abbrev P_is_order_in : List Str := ["web", "thing"]
theorem sc_is_order_in : FnScope N_is_order_in P_is_order_in (defScope s_is_order_in) := ⟨rfl, rfl, rfl, by decide +kernel, rfl, by decide +kernel, by decide +kernel⟩
abbrev N_is_taking_in : List Str := ["web", "thing", "own", "guest", "held"]
abbrev P_is_taking_in : List Str := ["web", "thing"]
theorem sc_is_taking_in : FnScope N_is_taking_in P_is_taking_in (defScope s_is_taking_in) := ⟨rfl, rfl, rfl, by decide +kernel, rfl, by decide +kernel, by decide +kernel⟩
abbrev N_sure_taking : List Str := ["web", "taking", "own"]
abbrev P_sure_taking : List Str := ["web", "taking"]
theorem sc_sure_taking : FnScope N_sure_taking P_sure_taking (defScope s_sure_taking) := ⟨rfl, rfl, rfl, by decide +kernel, rfl, by decide +kernel, by decide +kernel⟩
abbrev N_sure_held : List Str := ["web", "taking", "own"]
abbrev P_sure_held : List Str := ["web", "taking"]
theorem sc_sure_held : FnScope N_sure_held P_sure_held (defScope s_sure_held) := ⟨rfl, rfl, rfl, by decide +kernel, rfl, by decide +kernel, by decide +kernel⟩
abbrev N_holders_in : List Str := ["taking", "guest", "place"]
abbrev P_holders_in : List Str := ["taking"]
theorem sc_holders_in : FnScope N_holders_in P_holders_in (defScope s_holders_in) := ⟨rfl, rfl, rfl, by decide +kernel, rfl, by decide +kernel, by decide +kernel⟩
abbrev N_asked_in : List Str := ["web", "taking", "guest", "wanted", "other"]
abbrev P_asked_in : List Str := ["web", "taking", "guest"]
theorem sc_asked_in : FnScope N_asked_in P_asked_in (defScope s_asked_in) := ⟨rfl, rfl, rfl, by decide +kernel, rfl, by decide +kernel, by decide +kernel⟩
abbrev N_arrows_in : List Str := ["web", "taking", "holders", "found", "guest", "place"]
abbrev P_arrows_in : List Str := ["web", "taking"]
theorem sc_arrows_in : FnScope N_arrows_in P_arrows_in (defScope s_arrows_in) := ⟨rfl, rfl, rfl, by decide +kernel, rfl, by decide +kernel, by decide +kernel⟩
abbrev N_lacking_in : List Str := ["web", "taking", "holders", "guest", "own"]
abbrev P_lacking_in : List Str := ["web", "taking"]
theorem sc_lacking_in : FnScope N_lacking_in P_lacking_in (defScope s_lacking_in) := ⟨rfl, rfl, rfl, by decide +kernel, rfl, by decide +kernel, by decide +kernel⟩
abbrev N_order_in : List Str := ["web", "taking", "arrows", "found", "left", "barred", "free", "first", "later", "guest"]
abbrev P_order_in : List Str := ["web", "taking"]
theorem sc_order_in : FnScope N_order_in P_order_in (defScope s_order_in) := ⟨rfl, rfl, rfl, by decide +kernel, rfl, by decide +kernel, by decide +kernel⟩
abbrev N_is_outcome_in : List Str := ["web", "taking"]
abbrev P_is_outcome_in : List Str := ["web", "taking"]
theorem sc_is_outcome_in : FnScope N_is_outcome_in P_is_outcome_in (defScope s_is_outcome_in) := ⟨rfl, rfl, rfl, by decide +kernel, rfl, by decide +kernel, by decide +kernel⟩
abbrev N_is_along : List Str := ["web", "taking", "thing", "first", "later"]
abbrev P_is_along : List Str := ["web", "taking", "thing"]
theorem sc_is_along : FnScope N_is_along P_is_along (defScope s_is_along) := ⟨rfl, rfl, rfl, by decide +kernel, rfl, by decide +kernel, by decide +kernel⟩
abbrev N_is_outcome : List Str := ["web", "taking", "own", "held"]
abbrev P_is_outcome : List Str := ["web", "taking"]
theorem sc_is_outcome : FnScope N_is_outcome P_is_outcome (defScope s_is_outcome) := ⟨rfl, rfl, rfl, by decide +kernel, rfl, by decide +kernel, by decide +kernel⟩
abbrev N_order_of : List Str := ["web", "taking", "own", "held"]
abbrev P_order_of : List Str := ["web", "taking"]
theorem sc_order_of : FnScope N_order_of P_order_of (defScope s_order_of) := ⟨rfl, rfl, rfl, by decide +kernel, rfl, by decide +kernel, by decide +kernel⟩
abbrev N_is_order_of : List Str := ["web", "taking", "thing", "own", "held"]
abbrev P_is_order_of : List Str := ["web", "taking", "thing"]
theorem sc_is_order_of : FnScope N_is_order_of P_is_order_of (defScope s_is_order_of) := ⟨rfl, rfl, rfl, by decide +kernel, rfl, by decide +kernel, by decide +kernel⟩
abbrev N_behind_whom : List Str := ["web", "taking", "guest", "own", "held", "number", "found", "now", "told", "ahead", "first", "later"]
abbrev P_behind_whom : List Str := ["web", "taking", "guest"]
theorem sc_behind_whom : FnScope N_behind_whom P_behind_whom (defScope s_behind_whom) := ⟨rfl, rfl, rfl, by decide +kernel, rfl, by decide +kernel, by decide +kernel⟩
abbrev N_l_box : List Str := ["_law_script", "_law_k", "_law_bit_so"]
abbrev P_l_box : List Str := ["_law_script", "_law_k"]
theorem sc_l_box : FnScope N_l_box P_l_box (defScope s_l_box) := ⟨rfl, rfl, rfl, by decide +kernel, rfl, by decide +kernel, by decide +kernel⟩
abbrev N_l_take : List Str := ["_law_tin", "_law_below_so", "_law_drawn", "_law_once_so", "_law_wide_so", "_law_twice_so"]
abbrev P_l_take : List Str := ["_law_tin", "_law_below_so"]
theorem sc_l_take : FnScope N_l_take P_l_take (defScope s_l_take) := ⟨rfl, rfl, rfl, by decide +kernel, rfl, by decide +kernel, by decide +kernel⟩
abbrev N_l_cells : List Str := ["_law_script", "_law_most_so", "_law_cells_so", "_law_k", "_law_bit_so", "_law_at_so"]
abbrev P_l_cells : List Str := ["_law_script", "_law_most_so"]
theorem sc_l_cells : FnScope N_l_cells P_l_cells (defScope s_l_cells) := ⟨rfl, rfl, rfl, by decide +kernel, rfl, by decide +kernel, by decide +kernel⟩
abbrev N_l_of : List Str := ["_law_tin", "_law_goods_so"]
abbrev P_l_of : List Str := ["_law_tin", "_law_goods_so"]
theorem sc_l_of : FnScope N_l_of P_l_of (defScope s_l_of) := ⟨rfl, rfl, rfl, by decide +kernel, rfl, by decide +kernel, by decide +kernel⟩
abbrev N_l_pick : List Str := ["_law_tin", "_law_goods_so", "_law_count_so", "_law_pool_so", "_law_found", "_law_lap"]
abbrev P_l_pick : List Str := ["_law_tin", "_law_goods_so", "_law_count_so"]
theorem sc_l_pick : FnScope N_l_pick P_l_pick (defScope s_l_pick) := ⟨rfl, rfl, rfl, by decide +kernel, rfl, by decide +kernel, by decide +kernel⟩
abbrev N_l_lists : List Str := ["_law_matter", "_law_bit"]
abbrev P_l_lists : List Str := ["_law_matter"]
theorem sc_l_lists : FnScope N_l_lists P_l_lists (defScope s_l_lists) := ⟨rfl, rfl, rfl, by decide +kernel, rfl, by decide +kernel, by decide +kernel⟩
abbrev N_l_same : List Str := ["_law_got", "_law_due", "_law_mine", "_law_its"]
abbrev P_l_same : List Str := ["_law_got", "_law_due"]
theorem sc_l_same : FnScope N_l_same P_l_same (defScope s_l_same) := ⟨rfl, rfl, rfl, by decide +kernel, rfl, by decide +kernel, by decide +kernel⟩
abbrev N_l_seat : List Str := ["_law_net_here", "_law_taken_so", "_law_k", "_law_near_so", "_law_far_so"]
abbrev P_l_seat : List Str := ["_law_net_here", "_law_taken_so", "_law_k"]
theorem sc_l_seat : FnScope N_l_seat P_l_seat (defScope s_l_seat) := ⟨rfl, rfl, rfl, by decide +kernel, rfl, by decide +kernel, by decide +kernel⟩
abbrev N_l_run : List Str := ["_law_net_here", "_law_walk_here", "_law_seats", "_law_taken_so", "_law_k", "_law_own"]
abbrev P_l_run : List Str := ["_law_net_here", "_law_walk_here"]
theorem sc_l_run : FnScope N_l_run P_l_run (defScope s_l_run) := ⟨rfl, rfl, rfl, by decide +kernel, rfl, by decide +kernel, by decide +kernel⟩
abbrev N_l_arrows : List Str := ["_law_net_here", "_law_seats", "_law_found", "_law_k", "_law_own", "_law_its", "_law_spot"]
abbrev P_l_arrows : List Str := ["_law_net_here", "_law_seats"]
theorem sc_l_arrows : FnScope N_l_arrows P_l_arrows (defScope s_l_arrows) := ⟨rfl, rfl, rfl, by decide +kernel, rfl, by decide +kernel, by decide +kernel⟩
abbrev N_l_net : List Str := ["_law_tin", "_law_places_so", "_law_guests_so", "_law_many_so", "_law_long_so", "_law_found", "_law_lap"]
abbrev P_l_net : List Str := ["_law_tin", "_law_places_so", "_law_guests_so"]
theorem sc_l_net : FnScope N_l_net P_l_net (defScope s_l_net) := ⟨rfl, rfl, rfl, by decide +kernel, rfl, by decide +kernel, by decide +kernel⟩
abbrev N_l_walk : List Str := ["_law_tin", "_law_many_so"]
abbrev P_l_walk : List Str := ["_law_tin", "_law_many_so"]
theorem sc_l_walk : FnScope N_l_walk P_l_walk (defScope s_l_walk) := ⟨rfl, rfl, rfl, by decide +kernel, rfl, by decide +kernel, by decide +kernel⟩
abbrev N_l_ahead_of : List Str := ["_law_net_here", "_law_seats", "_law_k", "_law_arrows_so", "_law_found", "_law_row_so", "_law_later_so", "_law_one", "_law_two"]
abbrev P_l_ahead_of : List Str := ["_law_net_here", "_law_seats", "_law_k"]
theorem sc_l_ahead_of : FnScope N_l_ahead_of P_l_ahead_of (defScope s_l_ahead_of) := ⟨rfl, rfl, rfl, by decide +kernel, rfl, by decide +kernel, by decide +kernel⟩
abbrev N_l_is_walk_of : List Str := ["_law_many_so", "_law_matter", "_law_own"]
abbrev P_l_is_walk_of : List Str := ["_law_many_so", "_law_matter"]
theorem sc_l_is_walk_of : FnScope N_l_is_walk_of P_l_is_walk_of (defScope s_l_is_walk_of) := ⟨rfl, rfl, rfl, by decide +kernel, rfl, by decide +kernel, by decide +kernel⟩
abbrev N_l_along : List Str := ["_law_tin", "_law_net_here", "_law_seats", "_law_arrows_so", "_law_left_so", "_law_found", "_law_bars_so", "_law_k", "_law_one", "_law_two", "_law_own"]
abbrev P_l_along : List Str := ["_law_tin", "_law_net_here", "_law_seats"]
theorem sc_l_along : FnScope N_l_along P_l_along (defScope s_l_along) := ⟨rfl, rfl, rfl, by decide +kernel, rfl, by decide +kernel, by decide +kernel⟩
abbrev N_l_busy_net : List Str := ["_law_tin", "_law_places_so", "_law_guests_so", "_law_net_here", "_law_lap"]
abbrev P_l_busy_net : List Str := ["_law_tin", "_law_places_so", "_law_guests_so"]
theorem sc_l_busy_net : FnScope N_l_busy_net P_l_busy_net (defScope s_l_busy_net) := ⟨rfl, rfl, rfl, by decide +kernel, rfl, by decide +kernel, by decide +kernel⟩
abbrev N_l_reply : List Str := ["_law_net_here", "_law_seats", "_law_k", "_law_told", "error_a", "error_b", "error_c"]
abbrev P_l_reply : List Str := ["_law_net_here", "_law_seats", "_law_k"]
theorem sc_l_reply : FnScope N_l_reply P_l_reply (defScope s_l_reply) := ⟨rfl, rfl, rfl, by decide +kernel, rfl, by decide +kernel, by decide +kernel⟩
abbrev N_l_by_hand_right : List Str := ["_law_small", "_law_table", "_law_got", "_law_due", "_law_line_so", "_law_seats", "_law_k"]
abbrev P_l_by_hand_right : List Str := []
theorem sc_l_by_hand_right : FnScope N_l_by_hand_right P_l_by_hand_right (defScope s_l_by_hand_right) := ⟨rfl, rfl, rfl, by decide +kernel, rfl, by decide +kernel, by decide +kernel⟩
abbrev N_law : List Str := ["_law_script", "_law_tin", "_law_net_here", "_law_many_so", "_law_lap", "_law_walk_here", "_law_seats", "_law_told", "_law_along_so", "_law_walks_so", "_law_k", "_law_ahead_so", "_law_later_so", "_law_own"]
abbrev P_law : List Str := ["_law_script"]
theorem sc_law : FnScope N_law P_law (defScope s_law) := ⟨rfl, rfl, rfl, by decide +kernel, rfl, by decide +kernel, by decide +kernel⟩
/-- the built-ins stand -/
structure Ax (mg : Str → Option Value) : Prop where
  n_int : mg "int" = none
  n_isinstance : mg "isinstance" = none
  n_bool : mg "bool" = none
  n_tuple : mg "tuple" = none
  n_len : mg "len" = none
  n_list : mg "list" = none
  n_sorted : mg "sorted" = none
  n_set : mg "set" = none
  n_all : mg "all" = none
  n_zip : mg "zip" = none
  n_enumerate : mg "enumerate" = none
  n_range : mg "range" = none
  n_any : mg "any" = none
  n_abs : mg "abs" = none
  n_min : mg "min" = none
  n_str : mg "str" = none
  n_max : mg "max" = none
  n_ValueError : mg "ValueError" = none
  n_LookupError : mg "LookupError" = none
/-- where a def stands -/
structure Df (K : PySem.W.Frag) (mg : Str → Option Value) (x : Str) (st : Stmt) (ps : List Str) where
  f : Addr
  fd : FuncData
  F : Fun K x x st f fd
  g : mg x = some (.ref f)
  b : Binds K fd ps []
structure Tx (K : PySem.W.Frag) (mg : Str → Option Value) where
  A : Ax mg
  is_number : Df K mg "is_number" s_is_number P_is_number
  is_from : Df K mg "is_from" s_is_from P_is_from
  is_within : Df K mg "is_within" s_is_within P_is_within
  is_long : Df K mg "is_long" s_is_long P_is_long
  tupled : Df K mg "tupled" s_tupled P_tupled
  set_of : Df K mg "set_of" s_set_of P_set_of
  is_guest_of : Df K mg "is_guest_of" s_is_guest_of P_is_guest_of
  is_web : Df K mg "is_web" s_is_web P_is_web
  sure_web : Df K mg "sure_web" s_sure_web P_sure_web
  sure_guest : Df K mg "sure_guest" s_sure_guest P_sure_guest
  is_row_in : Df K mg "is_row_in" s_is_row_in P_is_row_in
  is_order_in : Df K mg "is_order_in" s_is_order_in P_is_order_in
  is_taking_in : Df K mg "is_taking_in" s_is_taking_in P_is_taking_in
  sure_taking : Df K mg "sure_taking" s_sure_taking P_sure_taking
  sure_held : Df K mg "sure_held" s_sure_held P_sure_held
  holders_in : Df K mg "holders_in" s_holders_in P_holders_in
  asked_in : Df K mg "asked_in" s_asked_in P_asked_in
  arrows_in : Df K mg "arrows_in" s_arrows_in P_arrows_in
  lacking_in : Df K mg "lacking_in" s_lacking_in P_lacking_in
  order_in : Df K mg "order_in" s_order_in P_order_in
  is_outcome_in : Df K mg "is_outcome_in" s_is_outcome_in P_is_outcome_in
  is_along : Df K mg "is_along" s_is_along P_is_along
  is_outcome : Df K mg "is_outcome" s_is_outcome P_is_outcome
  order_of : Df K mg "order_of" s_order_of P_order_of
  is_order_of : Df K mg "is_order_of" s_is_order_of P_is_order_of
  behind_whom : Df K mg "behind_whom" s_behind_whom P_behind_whom
  l_box : Df K mg "_law_box" s_l_box P_l_box
  l_take : Df K mg "_law_take" s_l_take P_l_take
  l_cells : Df K mg "_law_cells" s_l_cells P_l_cells
  l_of : Df K mg "_law_of" s_l_of P_l_of
  l_pick : Df K mg "_law_pick" s_l_pick P_l_pick
  l_lists : Df K mg "_law_lists" s_l_lists P_l_lists
  l_same : Df K mg "_law_same" s_l_same P_l_same
  l_seat : Df K mg "_law_seat" s_l_seat P_l_seat
  l_run : Df K mg "_law_run" s_l_run P_l_run
  l_arrows : Df K mg "_law_arrows" s_l_arrows P_l_arrows
  l_net : Df K mg "_law_net" s_l_net P_l_net
  l_walk : Df K mg "_law_walk" s_l_walk P_l_walk
  l_ahead_of : Df K mg "_law_ahead_of" s_l_ahead_of P_l_ahead_of
  l_is_walk_of : Df K mg "_law_is_walk_of" s_l_is_walk_of P_l_is_walk_of
  l_along : Df K mg "_law_along" s_l_along P_l_along
  l_busy_net : Df K mg "_law_busy_net" s_l_busy_net P_l_busy_net
  l_reply : Df K mg "_law_reply" s_l_reply P_l_reply
  l_by_hand_right : Df K mg "_law_by_hand_right" s_l_by_hand_right P_l_by_hand_right
  law : Df K mg "law" s_law P_law
def t_is_number (K : PySem.W.Frag) : TS := (tRet (tAndV (tCB (rIsi K) (tCons (tVar 0) (tCons (tC (.ty "int")) tNil))) (tNotV (tCB (rIsi K) (tCons (tVar 0) (tCons (tC (.ty "bool")) tNil))))))
theorem dv_is_number {P : Program} {w : World} {K : PySem.W.Frag} {mg : Str → Option Value} {base : Heap} {k : Nat} {cdv : Value} {A : Around} {outer : List Env} {s : Shared} {H : Hp} {E : XK} (T : Tx K mg)
    (hr : Room k (A.deeper (envOfC "is_number" (defScope s_is_number) s.heap.objs.size T.is_number.f cdv))) : PSs (cxOf CX0 P w K mg base N_is_number "is_number" (defScope s_is_number) T.is_number.f cdv A outer s H E).nox (defBody s_is_number) (t_is_number K) :=
  (pss_one (ps_ret (pe_and (pe_callB call_isi (by rfl) T.A.n_isinstance (by decide +kernel) (pa_cons (pv 0) (pa_cons (pe_bltn (v := .ty "int") (by rfl) T.A.n_int boot_int rfl) pa_nil))) (pe_one (pe_not (pe_callB call_isi (by rfl) T.A.n_isinstance (by decide +kernel) (pa_cons (pv 0) (pa_cons (pe_bltn (v := .ty "bool") (by rfl) T.A.n_bool boot_bool rfl) pa_nil))))))))
def t_is_from (K : PySem.W.Frag) (sp_is_number : Sp) : TS := (tRet (tAndV (tCall sp_is_number [] E0 (tCons (tVar 0) tNil)) (tOp rGeI (tVar 0) (tVar 1))))
theorem dv_is_from {P : Program} {w : World} {K : PySem.W.Frag} {mg : Str → Option Value} {base : Heap} {k : Nat} {cdv : Value} {A : Around} {outer : List Env} {s : Shared} {H : Hp} {E : XK} (T : Tx K mg) {sp_is_number : Sp} (G_is_number : FnOk P w K mg base CX0 k T.is_number.f T.is_number.fd P_is_number sp_is_number)
    (hr : Room k (A.deeper (envOfC "is_from" (defScope s_is_from) s.heap.objs.size T.is_from.f cdv))) : PSs (cxOf CX0 P w K mg base N_is_from "is_from" (defScope s_is_from) T.is_from.f cdv A outer s H E).nox (defBody s_is_from) (t_is_from K sp_is_number) :=
  (pss_one (ps_ret (pe_and (pe_call G_is_number hr (by rfl) T.is_number.g T.is_number.F.kp T.is_number.b .nil pass0 (pa_cons (pv 0) pa_nil)) (pe_one (pe_cmpR op_ge (pv 0) (pv 1) (nomark _))))))
def t_is_within (K : PySem.W.Frag) (sp_is_number : Sp) : TS := (tRet (tAndV (tCall sp_is_number [] E0 (tCons (tVar 0) tNil)) (tChain rLeI rLeI (tVar 1) (tVar 0) (tVar 2))))
theorem dv_is_within {P : Program} {w : World} {K : PySem.W.Frag} {mg : Str → Option Value} {base : Heap} {k : Nat} {cdv : Value} {A : Around} {outer : List Env} {s : Shared} {H : Hp} {E : XK} (T : Tx K mg) {sp_is_number : Sp} (G_is_number : FnOk P w K mg base CX0 k T.is_number.f T.is_number.fd P_is_number sp_is_number)
    (hr : Room k (A.deeper (envOfC "is_within" (defScope s_is_within) s.heap.objs.size T.is_within.f cdv))) : PSs (cxOf CX0 P w K mg base N_is_within "is_within" (defScope s_is_within) T.is_within.f cdv A outer s H E).nox (defBody s_is_within) (t_is_within K sp_is_number) :=
  (pss_one (ps_ret (pe_and (pe_call G_is_number hr (by rfl) T.is_number.g T.is_number.F.kp T.is_number.b .nil pass0 (pa_cons (pv 0) pa_nil)) (pe_one (pe_chain op_le op_le (pv 1) (pv 0) (pv 2))))))
def t_is_long (K : PySem.W.Frag) : TS := (tRet (tAndV (tCB (rIsi K) (tCons (tVar 0) (tCons (tC (.ty "tuple")) tNil))) (tOp (rEqD K) (tCB (rLenQ K) (tCons (tVar 0) tNil)) (tVar 1))))
theorem dv_is_long {P : Program} {w : World} {K : PySem.W.Frag} {mg : Str → Option Value} {base : Heap} {k : Nat} {cdv : Value} {A : Around} {outer : List Env} {s : Shared} {H : Hp} {E : XK} (T : Tx K mg)
    (hr : Room k (A.deeper (envOfC "is_long" (defScope s_is_long) s.heap.objs.size T.is_long.f cdv))) : PSs (cxOf CX0 P w K mg base N_is_long "is_long" (defScope s_is_long) T.is_long.f cdv A outer s H E).nox (defBody s_is_long) (t_is_long K) :=
  (pss_one (ps_ret (pe_and (pe_callB call_isi (by rfl) T.A.n_isinstance (by decide +kernel) (pa_cons (pv 0) (pa_cons (pe_bltn (v := .ty "tuple") (by rfl) T.A.n_tuple boot_tuple rfl) pa_nil))) (pe_one (pe_cmpR (op_eqD hr.units) (pe_callB call_len_seq (by rfl) T.A.n_len PySem.boot_len (pa_cons (pv 0) pa_nil)) (pv 1) (nomark _))))))
def t_tupled (K : PySem.W.Frag) (sp_tupled : Sp) : TS := (tRet (tIf (tB (tCB (rIsiT K) (tCons (tVar 0) (tCons (tTup (tCons (tC (.ty "list")) (tCons (tC (.ty "tuple")) tNil))) tNil)))) (tCB (rTupN K) (tCons (tLc (iSeq K (tVar 0)) (gName 1) tYes (tCall sp_tupled [] E0 (tCons (tVar 1) tNil)) [1]) tNil)) (tVar 0)))
theorem dv_tupled {P : Program} {w : World} {K : PySem.W.Frag} {mg : Str → Option Value} {base : Heap} {k : Nat} {cdv : Value} {A : Around} {outer : List Env} {s : Shared} {H : Hp} {E : XK} (T : Tx K mg) {sp_tupled : Sp} (G_tupled : FnOk P w K mg base CX0 k T.tupled.f T.tupled.fd P_tupled sp_tupled)
    (hr : Room k (A.deeper (envOfC "tupled" (defScope s_tupled) s.heap.objs.size T.tupled.f cdv))) : PSs (cxOf CX0 P w K mg base N_tupled "tupled" (defScope s_tupled) T.tupled.f cdv A outer s H E).nox (defBody s_tupled) (t_tupled K sp_tupled) :=
  (pss_one (ps_ret (pe_ifExp (pt_val (pe_callB call_isiT (by rfl) T.A.n_isinstance (by decide +kernel) (pa_cons (pv 0) (pa_cons (pe_tup (pa_cons (pe_bltn (v := .ty "list") (by rfl) T.A.n_list boot_list rfl) (pa_cons (pe_bltn (v := .ty "tuple") (by rfl) T.A.n_tuple boot_tuple rfl) pa_nil))) pa_nil)))) (pe_callTy call_tupleN (by rfl) T.A.n_tuple (by decide +kernel) (pa_cons (pe_lc (own := [("own", 1)]) (by rfl) (sc_tupled).nd (pi_seq (pv 0)) (blkOk_by (by kernel_rfl)) (fun _ _ _ _ _ => (pg_name (i := 1) (sc_tupled).nd rfl (by first | exact Or.inl rfl | exact Or.inr rfl))) (fun _ _ _ _ _ => pts_nil) (fun _ _ _ _ _ => (pe_call G_tupled hr (by rfl) T.tupled.g T.tupled.F.kp T.tupled.b .nil pass0 (pa_cons (pv 1) pa_nil)))) pa_nil)) (pv 0))))
def t_set_of (K : PySem.W.Frag) : TS := (tRet (tCB (rTupN K) (tCons (tSortSet K (tVar 0)) tNil)))
theorem dv_set_of {P : Program} {w : World} {K : PySem.W.Frag} {mg : Str → Option Value} {base : Heap} {k : Nat} {cdv : Value} {A : Around} {outer : List Env} {s : Shared} {H : Hp} {E : XK} (T : Tx K mg)
    (hr : Room k (A.deeper (envOfC "set_of" (defScope s_set_of) s.heap.objs.size T.set_of.f cdv))) : PSs (cxOf CX0 P w K mg base N_set_of "set_of" (defScope s_set_of) T.set_of.f cdv A outer s H E).nox (defBody s_set_of) (t_set_of K) :=
  (pss_one (ps_ret (pe_callTy call_tupleN (by rfl) T.A.n_tuple (by decide +kernel) (pa_cons (pe_sortSet rfl (by rfl) T.A.n_sorted (by rfl) T.A.n_set (pv 0)) pa_nil))))
def t_is_guest_of (K : PySem.W.Frag) (sp_is_long : Sp) (sp_is_within : Sp) : TS := (tRet (tAndV (tCall sp_is_long [] E0 (tCons (tVar 1) (tCons (tC (.int 2)) tNil))) (tAndV (tCB (rAll K) (tCons (tLc (iSeq K (tVar 1)) (gName 2) tYes (tCall sp_is_within [] E0 (tCons (tVar 2) (tCons (tC (.int 0)) (tCons (tOp rSubI (tVar 0) (tC (.int 1))) tNil)))) [2]) tNil)) (tOp (rNeD K) (tOp (rIx K) (tVar 1) (tC (.int 0))) (tOp (rIx K) (tVar 1) (tC (.int 1)))))))
theorem dv_is_guest_of {P : Program} {w : World} {K : PySem.W.Frag} {mg : Str → Option Value} {base : Heap} {k : Nat} {cdv : Value} {A : Around} {outer : List Env} {s : Shared} {H : Hp} {E : XK} (T : Tx K mg) {sp_is_long : Sp} (G_is_long : FnOk P w K mg base CX0 k T.is_long.f T.is_long.fd P_is_long sp_is_long) {sp_is_within : Sp} (G_is_within : FnOk P w K mg base CX0 k T.is_within.f T.is_within.fd P_is_within sp_is_within)
    (hr : Room k (A.deeper (envOfC "is_guest_of" (defScope s_is_guest_of) s.heap.objs.size T.is_guest_of.f cdv))) : PSs (cxOf CX0 P w K mg base N_is_guest_of "is_guest_of" (defScope s_is_guest_of) T.is_guest_of.f cdv A outer s H E).nox (defBody s_is_guest_of) (t_is_guest_of K sp_is_long sp_is_within) :=
  (pss_one (ps_ret (pe_and (pe_call G_is_long hr (by rfl) T.is_long.g T.is_long.F.kp T.is_long.b .nil pass0 (pa_cons (pv 1) (pa_cons pe_int pa_nil))) (pe_and (pe_callB (cr_all rfl) (by rfl) T.A.n_all (by decide +kernel) (pa_cons (pe_lc (own := [("own", 2)]) (by rfl) (sc_is_guest_of).nd (pi_seq (pv 1)) (blkOk_by (by kernel_rfl)) (fun _ _ _ _ _ => (pg_name (i := 2) (sc_is_guest_of).nd rfl (by first | exact Or.inl rfl | exact Or.inr rfl))) (fun _ _ _ _ _ => pts_nil) (fun _ _ _ _ _ => (pe_call G_is_within hr (by rfl) T.is_within.g T.is_within.F.kp T.is_within.b .nil pass0 (pa_cons (pv 2) (pa_cons pe_int (pa_cons (pe_op op_sub (pv 0) pe_int) pa_nil)))))) pa_nil)) (pe_one (pe_cmpR (op_neD hr.units) (pe_ix ix_seq (pv 1) pe_int (fun _ _ => rfl)) (pe_ix ix_seq (pv 1) pe_int (fun _ _ => rfl)) (nomark _)))))))
def t_is_web (K : PySem.W.Frag) (sp_is_long : Sp) (sp_is_from : Sp) (sp_is_guest_of : Sp) : TS := (tSeq (tIfS (tOr (tNot (tB (tCall sp_is_long [] E0 (tCons (tVar 0) (tCons (tC (.int 2)) tNil))))) (tOr (tNot (tB (tCall sp_is_from [] E0 (tCons (tOp (rIx K) (tVar 0) (tC (.int 0))) (tCons (tC (.int 1)) tNil))))) (tNot (tB (tCB (rIsi K) (tCons (tOp (rIx K) (tVar 0) (tC (.int 1))) (tCons (tC (.ty "tuple")) tNil))))))) (tRet (tC (.bl false))) tNext)
    (tRet (tCB (rAll K) (tCons (tLc (iSeq K (tOp (rIx K) (tVar 0) (tC (.int 1)))) (gName 1) tYes (tCall sp_is_guest_of [] E0 (tCons (tOp (rIx K) (tVar 0) (tC (.int 0))) (tCons (tVar 1) tNil))) [1]) tNil))))
theorem dv_is_web {P : Program} {w : World} {K : PySem.W.Frag} {mg : Str → Option Value} {base : Heap} {k : Nat} {cdv : Value} {A : Around} {outer : List Env} {s : Shared} {H : Hp} {E : XK} (T : Tx K mg) {sp_is_long : Sp} (G_is_long : FnOk P w K mg base CX0 k T.is_long.f T.is_long.fd P_is_long sp_is_long) {sp_is_from : Sp} (G_is_from : FnOk P w K mg base CX0 k T.is_from.f T.is_from.fd P_is_from sp_is_from) {sp_is_guest_of : Sp} (G_is_guest_of : FnOk P w K mg base CX0 k T.is_guest_of.f T.is_guest_of.fd P_is_guest_of sp_is_guest_of)
    (hr : Room k (A.deeper (envOfC "is_web" (defScope s_is_web) s.heap.objs.size T.is_web.f cdv))) : PSs (cxOf CX0 P w K mg base N_is_web "is_web" (defScope s_is_web) T.is_web.f cdv A outer s H E).nox (defBody s_is_web) (t_is_web K sp_is_long sp_is_from sp_is_guest_of) :=
  (pss_cons (ps_if (PW.pt (pw_or (pt_not (pt_val (pe_call G_is_long hr (by rfl) T.is_long.g T.is_long.F.kp T.is_long.b .nil pass0 (pa_cons (pv 0) (pa_cons pe_int pa_nil))))) (pw_or (pt_not (pt_val (pe_call G_is_from hr (by rfl) T.is_from.g T.is_from.F.kp T.is_from.b .nil pass0 (pa_cons (pe_ix ix_seq (pv 0) pe_int (fun _ _ => rfl)) (pa_cons pe_int pa_nil))))) (pw_or1 (pt_not (pt_val (pe_callB call_isi (by rfl) T.A.n_isinstance (by decide +kernel) (pa_cons (pe_ix ix_seq (pv 0) pe_int (fun _ _ => rfl)) (pa_cons (pe_bltn (v := .ty "tuple") (by rfl) T.A.n_tuple boot_tuple rfl) pa_nil))))))))) (pss_one (ps_ret pe_bl)) pss_nil)
      (pss_one (ps_ret (pe_callB (cr_all rfl) (by rfl) T.A.n_all (by decide +kernel) (pa_cons (pe_lc (own := [("own", 1)]) (by rfl) (sc_is_web).nd (pi_seq (pe_ix ix_seq (pv 0) pe_int (fun _ _ => rfl))) (blkOk_by (by kernel_rfl)) (fun _ _ _ _ _ => (pg_name (i := 1) (sc_is_web).nd rfl (by first | exact Or.inl rfl | exact Or.inr rfl))) (fun _ _ _ _ _ => pts_nil) (fun _ _ _ _ _ => (pe_call G_is_guest_of hr (by rfl) T.is_guest_of.g T.is_guest_of.F.kp T.is_guest_of.b .nil pass0 (pa_cons (pe_ix ix_seq (pv 0) pe_int (fun _ _ => rfl)) (pa_cons (pv 1) pa_nil))))) pa_nil)))))
def t_sure_web (K : PySem.W.Frag) (sp_tupled : Sp) (sp_is_web : Sp) : TS := (tSeq (tAsg (tCall sp_tupled [] E0 (tCons (tVar 0) tNil)) (gName 1))
    (tSeq (tIfS (tNot (tB (tCall sp_is_web [] E0 (tCons (tVar 1) tNil)))) tNever tNext)
    (tRet (tVar 1))))
theorem dv_sure_web {P : Program} {w : World} {K : PySem.W.Frag} {mg : Str → Option Value} {base : Heap} {k : Nat} {cdv : Value} {A : Around} {outer : List Env} {s : Shared} {H : Hp} {E : XK} (T : Tx K mg) {sp_tupled : Sp} (G_tupled : FnOk P w K mg base CX0 k T.tupled.f T.tupled.fd P_tupled sp_tupled) {sp_is_web : Sp} (G_is_web : FnOk P w K mg base CX0 k T.is_web.f T.is_web.fd P_is_web sp_is_web)
    (hr : Room k (A.deeper (envOfC "sure_web" (defScope s_sure_web) s.heap.objs.size T.sure_web.f cdv))) : PSs (cxOf CX0 P w K mg base N_sure_web "sure_web" (defScope s_sure_web) T.sure_web.f cdv A outer s H E).nox (defBody s_sure_web) (t_sure_web K sp_tupled sp_is_web) :=
  (pss_cons (ps_set (i := 1) (sc_sure_web).nd rfl (by first | exact Or.inl rfl | exact Or.inr rfl) (pe_call G_tupled hr (by rfl) T.tupled.g T.tupled.F.kp T.tupled.b .nil pass0 (pa_cons (pv 0) pa_nil)))
      (pss_cons (ps_if (pt_not (pt_val (pe_call G_is_web hr (by rfl) T.is_web.g T.is_web.F.kp T.is_web.b .nil pass0 (pa_cons (pv 1) pa_nil)))) (pss_one ps_never) pss_nil)
      (pss_one (ps_ret (pv 1)))))
def t_is_row_in (K : PySem.W.Frag) (sp_is_within : Sp) : TS := (tSeq (tIfS (tOr (tNot (tB (tCB (rIsi K) (tCons (tVar 1) (tCons (tC (.ty "tuple")) tNil))))) (tNot (tB (tCB (rAll K) (tCons (tLc (iSeq K (tVar 1)) (gName 2) tYes (tCall sp_is_within [] E0 (tCons (tVar 2) (tCons (tC (.int 0)) (tCons (tOp rSubI (tCB (rLenQ K) (tCons (tOp (rIx K) (tVar 0) (tC (.int 1))) tNil)) (tC (.int 1))) tNil)))) [2]) tNil))))) (tRet (tC (.bl false))) tNext)
    (tRet (tOp (rEqD K) (tLenSet K (tVar 1)) (tCB (rLenQ K) (tCons (tVar 1) tNil)))))
theorem dv_is_row_in {P : Program} {w : World} {K : PySem.W.Frag} {mg : Str → Option Value} {base : Heap} {k : Nat} {cdv : Value} {A : Around} {outer : List Env} {s : Shared} {H : Hp} {E : XK} (T : Tx K mg) {sp_is_within : Sp} (G_is_within : FnOk P w K mg base CX0 k T.is_within.f T.is_within.fd P_is_within sp_is_within)
    (hr : Room k (A.deeper (envOfC "is_row_in" (defScope s_is_row_in) s.heap.objs.size T.is_row_in.f cdv))) : PSs (cxOf CX0 P w K mg base N_is_row_in "is_row_in" (defScope s_is_row_in) T.is_row_in.f cdv A outer s H E).nox (defBody s_is_row_in) (t_is_row_in K sp_is_within) :=
  (pss_cons (ps_if (PW.pt (pw_or (pt_not (pt_val (pe_callB call_isi (by rfl) T.A.n_isinstance (by decide +kernel) (pa_cons (pv 1) (pa_cons (pe_bltn (v := .ty "tuple") (by rfl) T.A.n_tuple boot_tuple rfl) pa_nil))))) (pw_or1 (pt_not (pt_val (pe_callB (cr_all rfl) (by rfl) T.A.n_all (by decide +kernel) (pa_cons (pe_lc (own := [("own", 2)]) (by rfl) (sc_is_row_in).nd (pi_seq (pv 1)) (blkOk_by (by kernel_rfl)) (fun _ _ _ _ _ => (pg_name (i := 2) (sc_is_row_in).nd rfl (by first | exact Or.inl rfl | exact Or.inr rfl))) (fun _ _ _ _ _ => pts_nil) (fun _ _ _ _ _ => (pe_call G_is_within hr (by rfl) T.is_within.g T.is_within.F.kp T.is_within.b .nil pass0 (pa_cons (pv 2) (pa_cons pe_int (pa_cons (pe_op op_sub (pe_callB call_len_seq (by rfl) T.A.n_len PySem.boot_len (pa_cons (pe_ix ix_seq (pv 0) pe_int (fun _ _ => rfl)) pa_nil)) pe_int) pa_nil)))))) pa_nil))))))) (pss_one (ps_ret pe_bl)) pss_nil)
      (pss_one (ps_ret (pe_cmpR (op_eqD hr.units) (pe_lenSetQ rfl (by rfl) T.A.n_len (by rfl) T.A.n_set (pv 1)) (pe_callB call_len_seq (by rfl) T.A.n_len PySem.boot_len (pa_cons (pv 1) pa_nil)) (nomark _)))))
def t_is_order_in (K : PySem.W.Frag) (sp_is_row_in : Sp) : TS := (tRet (tAndV (tCall sp_is_row_in [] E0 (tCons (tVar 0) (tCons (tVar 1) tNil))) (tOp (rEqD K) (tCB (rLenQ K) (tCons (tVar 1) tNil)) (tCB (rLenQ K) (tCons (tOp (rIx K) (tVar 0) (tC (.int 1))) tNil)))))
theorem dv_is_order_in {P : Program} {w : World} {K : PySem.W.Frag} {mg : Str → Option Value} {base : Heap} {k : Nat} {cdv : Value} {A : Around} {outer : List Env} {s : Shared} {H : Hp} {E : XK} (T : Tx K mg) {sp_is_row_in : Sp} (G_is_row_in : FnOk P w K mg base CX0 k T.is_row_in.f T.is_row_in.fd P_is_row_in sp_is_row_in)
    (hr : Room k (A.deeper (envOfC "is_order_in" (defScope s_is_order_in) s.heap.objs.size T.is_order_in.f cdv))) : PSs (cxOf CX0 P w K mg base N_is_order_in "is_order_in" (defScope s_is_order_in) T.is_order_in.f cdv A outer s H E).nox (defBody s_is_order_in) (t_is_order_in K sp_is_row_in) :=
  (pss_one (ps_ret (pe_and (pe_call G_is_row_in hr (by rfl) T.is_row_in.g T.is_row_in.F.kp T.is_row_in.b .nil pass0 (pa_cons (pv 0) (pa_cons (pv 1) pa_nil))) (pe_one (pe_cmpR (op_eqD hr.units) (pe_callB call_len_seq (by rfl) T.A.n_len PySem.boot_len (pa_cons (pv 1) pa_nil)) (pe_callB call_len_seq (by rfl) T.A.n_len PySem.boot_len (pa_cons (pe_ix ix_seq (pv 0) pe_int (fun _ _ => rfl)) pa_nil)) (nomark _))))))
def t_is_taking_in (K : PySem.W.Frag) (sp_is_number : Sp) : TS := (tSeq (tIfS (tOr (tNot (tB (tCB (rIsi K) (tCons (tVar 1) (tCons (tC (.ty "tuple")) tNil))))) (tTest (tOp (rNeD K) (tCB (rLenQ K) (tCons (tVar 1) tNil)) (tCB (rLenQ K) (tCons (tOp (rIx K) (tVar 0) (tC (.int 1))) tNil))))) (tRet (tC (.bl false))) tNext)
    (tSeq (tFor (RZ.iZipA K (tCons (tVar 1) (tCons (tOp (rIx K) (tVar 0) (tC (.int 1))) tNil))) (gTup K 2 (gCons (gName 2) (gCons (gName 3) gNil))) (tIfS (tAnd (tTest (tOp rNotN (tVar 2) (tC .non))) (tNot (tAnd (tB (tCall sp_is_number [] E0 (tCons (tVar 2) tNil))) (tTest (tOp (rIn K false) (tVar 2) (tVar 3)))))) (tRet (tC (.bl false))) tNext))
    (tSeq (tAsg (tLc (iSeq K (tVar 1)) (gName 2) (tTest (tOp rNotN (tVar 2) (tC .non))) (tVar 2) [2]) (gName 4))
    (tRet (tOp (rEqD K) (tLenSet K (tVar 4)) (tCB (rLenQ K) (tCons (tVar 4) tNil)))))))
theorem dv_is_taking_in {P : Program} {w : World} {K : PySem.W.Frag} {mg : Str → Option Value} {base : Heap} {k : Nat} {cdv : Value} {A : Around} {outer : List Env} {s : Shared} {H : Hp} {E : XK} (T : Tx K mg) {sp_is_number : Sp} (G_is_number : FnOk P w K mg base CX0 k T.is_number.f T.is_number.fd P_is_number sp_is_number)
    (hr : Room k (A.deeper (envOfC "is_taking_in" (defScope s_is_taking_in) s.heap.objs.size T.is_taking_in.f cdv))) : PSs (cxOf CX0 P w K mg base N_is_taking_in "is_taking_in" (defScope s_is_taking_in) T.is_taking_in.f cdv A outer s H E).nox (defBody s_is_taking_in) (t_is_taking_in K sp_is_number) :=
  (pss_cons (ps_if (PW.pt (pw_or (pt_not (pt_val (pe_callB call_isi (by rfl) T.A.n_isinstance (by decide +kernel) (pa_cons (pv 1) (pa_cons (pe_bltn (v := .ty "tuple") (by rfl) T.A.n_tuple boot_tuple rfl) pa_nil))))) (pw_or1 (pt_cmpR (op_neD hr.units) (pe_callB call_len_seq (by rfl) T.A.n_len PySem.boot_len (pa_cons (pv 1) pa_nil)) (pe_callB call_len_seq (by rfl) T.A.n_len PySem.boot_len (pa_cons (pe_ix ix_seq (pv 0) pe_int (fun _ _ => rfl)) pa_nil)) (nomark _))))) (pss_one (ps_ret pe_bl)) pss_nil)
      (pss_cons (ps_for PassesOwn.never rfl (RZ.pi_zipA (by rfl) T.A.n_zip (pa_cons (pv 1) (pa_cons (pe_ix ix_seq (pv 0) pe_int (fun _ _ => rfl)) pa_nil))) (pg_tup rfl (pgs_cons (pg_name (i := 2) (sc_is_taking_in).nd rfl (by first | exact Or.inl rfl | exact Or.inr rfl)) (pgs_cons (pg_name (i := 3) (sc_is_taking_in).nd rfl (by first | exact Or.inl rfl | exact Or.inr rfl)) pgs_nil))) (pss_one (ps_if (PW.pt (pw_and (pt_cmpR op_notN (pv 2) pe_non (nomark _)) (pw_and1 (pt_not (PW.pt (pw_and (pt_val (pe_call G_is_number hr (by rfl) T.is_number.g T.is_number.F.kp T.is_number.b .nil pass0 (pa_cons (pv 2) pa_nil))) (pw_and1 (pt_cmpR op_in_seq (pv 2) (pv 3) (by rfl))))))))) (pss_one (ps_ret pe_bl)) pss_nil)))
      (pss_cons (ps_setLc (i := 4) (own := [("own", 2)]) (by rfl) (sc_is_taking_in).nd rfl rfl (sw_true rfl rfl rfl (by decide +kernel)) (pi_seq (pv 1)) (blkOk_by (by kernel_rfl)) (fun _ _ _ _ _ => (pg_name (i := 2) (sc_is_taking_in).nd rfl (by first | exact Or.inl rfl | exact Or.inr rfl))) (fun _ _ _ _ _ => (pts_one (pt_cmpR op_notN (pv 2) pe_non (nomark _)))) (fun _ _ _ _ _ => (pv 2)))
      (pss_one (ps_ret (pe_cmpR (op_eqD hr.units) (pe_lenSetQ rfl (by rfl) T.A.n_len (by rfl) T.A.n_set (pv 4)) (pe_callB call_len_seq (by rfl) T.A.n_len PySem.boot_len (pa_cons (pv 4) pa_nil)) (nomark _)))))))
def t_holders_in (K : PySem.W.Frag) : TS := (tRet (tDc (iEnumT K (tCons (tVar 0) tNil)) (gTup K 2 (gCons (gName 1) (gCons (gName 2) gNil))) (tTest (tOp rNotN (tVar 2) (tC .non))) (tVar 2) (tVar 1) [1, 2]))
theorem dv_holders_in {P : Program} {w : World} {K : PySem.W.Frag} {mg : Str → Option Value} {base : Heap} {k : Nat} {cdv : Value} {A : Around} {outer : List Env} {s : Shared} {H : Hp} {E : XK} (T : Tx K mg)
    (hr : Room k (A.deeper (envOfC "holders_in" (defScope s_holders_in) s.heap.objs.size T.holders_in.f cdv))) : PSs (cxOf CX0 P w K mg base N_holders_in "holders_in" (defScope s_holders_in) T.holders_in.f cdv A outer s H E).nox (defBody s_holders_in) (t_holders_in K) :=
  (pss_one (ps_ret (pe_dc (own := [("guest", 1), ("place", 2)]) (by rfl) (sc_holders_in).nd (pi_enumT (by rfl) T.A.n_enumerate (pa_cons (pv 0) pa_nil)) (blkOk_by (by kernel_rfl)) (fun _ _ _ _ _ => (pg_tup rfl (pgs_cons (pg_name (i := 1) (sc_holders_in).nd rfl (by first | exact Or.inl rfl | exact Or.inr rfl)) (pgs_cons (pg_name (i := 2) (sc_holders_in).nd rfl (by first | exact Or.inl rfl | exact Or.inr rfl)) pgs_nil)))) (fun _ _ _ _ _ => (pts_one (pt_cmpR op_notN (pv 2) pe_non (nomark _)))) (fun _ _ _ _ _ => (pv 2)) (fun _ _ _ _ _ => (pv 1)))))
def t_asked_in (K : PySem.W.Frag) : TS := (tSeq (tAsg (tOp (rIx K) (tOp (rIx K) (tVar 0) (tC (.int 1))) (tVar 2)) (gTup K 2 (gCons (gName 3) (gCons (gName 4) gNil))))
    (tSeq (tIfS (tTest (tOp (rEqD K) (tOp (rIx K) (tVar 1) (tVar 2)) (tVar 3))) (tRet (tTupN tNil)) tNext)
    (tRet (tIf (tTest (tOp (rEqD K) (tOp (rIx K) (tVar 1) (tVar 2)) (tVar 4))) (tTupN (tCons (tVar 3) tNil)) (tTupN (tCons (tVar 3) (tCons (tVar 4) tNil)))))))
theorem dv_asked_in {P : Program} {w : World} {K : PySem.W.Frag} {mg : Str → Option Value} {base : Heap} {k : Nat} {cdv : Value} {A : Around} {outer : List Env} {s : Shared} {H : Hp} {E : XK} (T : Tx K mg)
    (hr : Room k (A.deeper (envOfC "asked_in" (defScope s_asked_in) s.heap.objs.size T.asked_in.f cdv))) : PSs (cxOf CX0 P w K mg base N_asked_in "asked_in" (defScope s_asked_in) T.asked_in.f cdv A outer s H E).nox (defBody s_asked_in) (t_asked_in K) :=
  (pss_cons (ps_asg (pe_ix ix_seq (pe_ix ix_seq (pv 0) pe_int (fun _ _ => rfl)) (pv 2) (fun _ _ => rfl)) (pg_tup rfl (pgs_cons (pg_name (i := 3) (sc_asked_in).nd rfl (by first | exact Or.inl rfl | exact Or.inr rfl)) (pgs_cons (pg_name (i := 4) (sc_asked_in).nd rfl (by first | exact Or.inl rfl | exact Or.inr rfl)) pgs_nil))))
      (pss_cons (ps_if (pt_cmpR (op_eqD hr.units) (pe_ix ix_seq (pv 1) (pv 2) (fun _ _ => rfl)) (pv 3) (nomark _)) (pss_one (ps_ret (pe_tupN pa_nil))) pss_nil)
      (pss_one (ps_ret (pe_ifExp (pt_cmpR (op_eqD hr.units) (pe_ix ix_seq (pv 1) (pv 2) (fun _ _ => rfl)) (pv 4) (nomark _)) (pe_tupN (pa_cons (pv 3) pa_nil)) (pe_tupN (pa_cons (pv 3) (pa_cons (pv 4) pa_nil))))))))
def t_arrows_in (K : PySem.W.Frag) (sp_holders_in : Sp) (sp_asked_in : Sp) : TS := (tSeq (tAsg (tTup (tCons (tCall sp_holders_in [] E0 (tCons (tVar 1) tNil)) (tCons (tLst tNil) tNil))) (gTup K 2 (gCons (gName 2) (gCons (gName 3) gNil))))
    (tSeq (tFor (iRng1 (tCons (tCB (rLenQ K) (tCons (tVar 1) tNil)) tNil)) (gName 4) (tDrop (tBM K "list" rExtend (tVar 3) (tCons (tLc (iSeq K (tCall sp_asked_in [] E0 (tCons (tVar 0) (tCons (tVar 1) (tCons (tVar 4) tNil))))) (gName 5) (tB (tDIn (tVar 5) (tVar 2))) (tTup (tCons (tDGet (tVar 2) (tVar 5)) (tCons (tVar 4) tNil))) [5]) tNil))))
    (tRet (tCB (rSortPQ K) (tCons (tVar 3) tNil)))))
theorem dv_arrows_in {P : Program} {w : World} {K : PySem.W.Frag} {mg : Str → Option Value} {base : Heap} {k : Nat} {cdv : Value} {A : Around} {outer : List Env} {s : Shared} {H : Hp} {E : XK} (T : Tx K mg) {sp_holders_in : Sp} (G_holders_in : FnOk P w K mg base CX0 k T.holders_in.f T.holders_in.fd P_holders_in sp_holders_in) {sp_asked_in : Sp} (G_asked_in : FnOk P w K mg base CX0 k T.asked_in.f T.asked_in.fd P_asked_in sp_asked_in)
    (hr : Room k (A.deeper (envOfC "arrows_in" (defScope s_arrows_in) s.heap.objs.size T.arrows_in.f cdv))) : PSs (cxOf CX0 P w K mg base N_arrows_in "arrows_in" (defScope s_arrows_in) T.arrows_in.f cdv A outer s H E).nox (defBody s_arrows_in) (t_arrows_in K sp_holders_in sp_asked_in) :=
  (pss_cons (ps_asg (pe_tup (pa_cons (pe_call G_holders_in hr (by rfl) T.holders_in.g T.holders_in.F.kp T.holders_in.b .nil pass0 (pa_cons (pv 1) pa_nil)) (pa_cons (pe_lst pa_nil) pa_nil))) (pg_tup rfl (pgs_cons (pg_name (i := 2) (sc_arrows_in).nd rfl (by first | exact Or.inl rfl | exact Or.inr rfl)) (pgs_cons (pg_name (i := 3) (sc_arrows_in).nd rfl (by first | exact Or.inl rfl | exact Or.inr rfl)) pgs_nil))))
      (pss_cons (ps_for PassesOwn.never rfl (pi_range1 (by rfl) T.A.n_range (pa_cons (pe_callB call_len_seq (by rfl) T.A.n_len PySem.boot_len (pa_cons (pv 1) pa_nil)) pa_nil)) (pg_name (i := 4) (sc_arrows_in).nd rfl (by first | exact Or.inl rfl | exact Or.inr rfl)) (pss_one (ps_expr (pe_bm PySem.F.plainAttrs_list PySem.F.slot_list_extend PySem.F.type_list_extend mt_extend (pv 3) (pa_cons (pe_lc (own := [("place", 5)]) (by rfl) (sc_arrows_in).nd (pi_seq (pe_call G_asked_in hr (by rfl) T.asked_in.g T.asked_in.F.kp T.asked_in.b .nil pass0 (pa_cons (pv 0) (pa_cons (pv 1) (pa_cons (pv 4) pa_nil))))) (blkOk_by (by kernel_rfl)) (fun _ _ _ _ _ => (pg_name (i := 5) (sc_arrows_in).nd rfl (by first | exact Or.inl rfl | exact Or.inr rfl))) (fun _ _ _ _ _ => (pts_one (pt_cmp (pc_din (hu_of hr) (pv 5) (pv 2))))) (fun _ _ _ _ _ => (pe_tup (pa_cons (pe_dget (hu_of hr) (pv 2) (pv 5) (fun _ _ => rfl)) (pa_cons (pv 4) pa_nil))))) pa_nil)))))
      (pss_one (ps_ret (pe_callB (cr_sortPQ rfl) (by rfl) T.A.n_sorted (by decide +kernel) (pa_cons (pv 3) pa_nil))))))
def t_lacking_in (K : PySem.W.Frag) (sp_holders_in : Sp) (sp_asked_in : Sp) : TS := (tSeq (tAsg (tCall sp_holders_in [] E0 (tCons (tVar 1) tNil)) (gName 2))
    (tRet (tLc (iRng1 (tCons (tCB (rLenQ K) (tCons (tVar 1) tNil)) tNil)) (gName 3) (tB (tCB (rAny K) (tCons (tLc (iSeq K (tCall sp_asked_in [] E0 (tCons (tVar 0) (tCons (tVar 1) (tCons (tVar 3) tNil))))) (gName 4) tYes (tDNotIn (tVar 4) (tVar 2)) [4]) tNil))) (tVar 3) [3])))
theorem dv_lacking_in {P : Program} {w : World} {K : PySem.W.Frag} {mg : Str → Option Value} {base : Heap} {k : Nat} {cdv : Value} {A : Around} {outer : List Env} {s : Shared} {H : Hp} {E : XK} (T : Tx K mg) {sp_holders_in : Sp} (G_holders_in : FnOk P w K mg base CX0 k T.holders_in.f T.holders_in.fd P_holders_in sp_holders_in) {sp_asked_in : Sp} (G_asked_in : FnOk P w K mg base CX0 k T.asked_in.f T.asked_in.fd P_asked_in sp_asked_in)
    (hr : Room k (A.deeper (envOfC "lacking_in" (defScope s_lacking_in) s.heap.objs.size T.lacking_in.f cdv))) : PSs (cxOf CX0 P w K mg base N_lacking_in "lacking_in" (defScope s_lacking_in) T.lacking_in.f cdv A outer s H E).nox (defBody s_lacking_in) (t_lacking_in K sp_holders_in sp_asked_in) :=
  (pss_cons (ps_set (i := 2) (sc_lacking_in).nd rfl (by first | exact Or.inl rfl | exact Or.inr rfl) (pe_call G_holders_in hr (by rfl) T.holders_in.g T.holders_in.F.kp T.holders_in.b .nil pass0 (pa_cons (pv 1) pa_nil)))
      (pss_one (ps_ret (pe_lc (own := [("guest", 3)]) (by rfl) (sc_lacking_in).nd (pi_range1 (by rfl) T.A.n_range (pa_cons (pe_callB call_len_seq (by rfl) T.A.n_len PySem.boot_len (pa_cons (pv 1) pa_nil)) pa_nil)) (blkOk_by (by kernel_rfl)) (fun _ _ _ _ _ => (pg_name (i := 3) (sc_lacking_in).nd rfl (by first | exact Or.inl rfl | exact Or.inr rfl))) (fun _ _ _ _ _ => (pts_one (pt_val (pe_callB (cr_any rfl) (by rfl) T.A.n_any (by decide +kernel) (pa_cons (pe_lc (own := [("own", 4)]) (by rfl) (sc_lacking_in).nd (pi_seq (pe_call G_asked_in hr (by rfl) T.asked_in.g T.asked_in.F.kp T.asked_in.b .nil pass0 (pa_cons (pv 0) (pa_cons (pv 1) (pa_cons (pv 3) pa_nil))))) (blkOk_by (by kernel_rfl)) (fun _ _ _ _ _ => (pg_name (i := 4) (sc_lacking_in).nd rfl (by first | exact Or.inl rfl | exact Or.inr rfl))) (fun _ _ _ _ _ => pts_nil) (fun _ _ _ _ _ => (pe_cmp (pc_dnotin (hu_of hr) (pv 4) (pv 2))))) pa_nil))))) (fun _ _ _ _ _ => (pv 3))))))
def t_order_in (K : PySem.W.Frag) (sp_arrows_in : Sp) : TS := (tSeq (tAsg (tTup (tCons (tCall sp_arrows_in [] E0 (tCons (tVar 0) (tCons (tVar 1) tNil))) (tCons (tLst tNil) (tCons (tLstRg (tRg1 (tCB (rLenQ K) (tCons (tVar 1) tNil)))) tNil)))) (gTup K 3 (gCons (gName 2) (gCons (gName 3) (gCons (gName 4) gNil)))))
    (tSeq (tWhile (tTest (tOp (rNeD K) (tVar 4) (tLst tNil))) (tSeq (tAsg (tLc (iSeq K (tVar 2)) (gTup K 2 (gCons (gName 7) (gCons (gName 8) gNil))) (tTest (tOp (rIn K false) (tVar 7) (tVar 4))) (tVar 8) [7, 8]) (gName 5))
    (tSeq (tAsg (tLc (iSeq K (tVar 4)) (gName 9) (tTest (tOp (rIn K true) (tVar 9) (tVar 5))) (tVar 9) [9]) (gName 6))
    (tSeq (tIfS (tTest (tOp (rEqD K) (tVar 6) (tLst tNil))) (tRet (tC .non)) tNext)
    (tSeq (tDrop (tBM K "list" rAppend (tVar 3) (tCons (tOp (rIx K) (tVar 6) (tC (.int 0))) tNil)))
    (tDrop (tBM K "list" rRemI (tVar 4) (tCons (tOp (rIx K) (tVar 6) (tC (.int 0))) tNil))))))))
    (tRet (tCB (rTupN K) (tCons (tVar 3) tNil)))))
theorem dv_order_in {P : Program} {w : World} {K : PySem.W.Frag} {mg : Str → Option Value} {base : Heap} {k : Nat} {cdv : Value} {A : Around} {outer : List Env} {s : Shared} {H : Hp} {E : XK} (T : Tx K mg) {sp_arrows_in : Sp} (G_arrows_in : FnOk P w K mg base CX0 k T.arrows_in.f T.arrows_in.fd P_arrows_in sp_arrows_in)
    (hr : Room k (A.deeper (envOfC "order_in" (defScope s_order_in) s.heap.objs.size T.order_in.f cdv))) : PSs (cxOf CX0 P w K mg base N_order_in "order_in" (defScope s_order_in) T.order_in.f cdv A outer s H E).nox (defBody s_order_in) (t_order_in K sp_arrows_in) :=
  (pss_cons (ps_asg (pe_tup (pa_cons (pe_call G_arrows_in hr (by rfl) T.arrows_in.g T.arrows_in.F.kp T.arrows_in.b .nil pass0 (pa_cons (pv 0) (pa_cons (pv 1) pa_nil))) (pa_cons (pe_lst pa_nil) (pa_cons (pe_listRg rfl (by rfl) T.A.n_list (prg_1 (by rfl) T.A.n_range (pe_callB call_len_seq (by rfl) T.A.n_len PySem.boot_len (pa_cons (pv 1) pa_nil)))) pa_nil)))) (pg_tup rfl (pgs_cons (pg_name (i := 2) (sc_order_in).nd rfl (by first | exact Or.inl rfl | exact Or.inr rfl)) (pgs_cons (pg_name (i := 3) (sc_order_in).nd rfl (by first | exact Or.inl rfl | exact Or.inr rfl)) (pgs_cons (pg_name (i := 4) (sc_order_in).nd rfl (by first | exact Or.inl rfl | exact Or.inr rfl)) pgs_nil)))))
      (pss_cons (ps_while PassesOwn.never (pt_cmpR (op_neD hr.units) (pv 4) (pe_lst pa_nil) (nomark _)) (pss_cons (ps_set (i := 5) (sc_order_in).nd rfl (by first | exact Or.inl rfl | exact Or.inr rfl) (pe_lc (own := [("first", 7), ("later", 8)]) (by rfl) (sc_order_in).nd (pi_seq (pv 2)) (blkOk_by (by kernel_rfl)) (fun _ _ _ _ _ => (pg_tup rfl (pgs_cons (pg_name (i := 7) (sc_order_in).nd rfl (by first | exact Or.inl rfl | exact Or.inr rfl)) (pgs_cons (pg_name (i := 8) (sc_order_in).nd rfl (by first | exact Or.inl rfl | exact Or.inr rfl)) pgs_nil)))) (fun _ _ _ _ _ => (pts_one (pt_cmpR op_in_seq (pv 7) (pv 4) (by rfl)))) (fun _ _ _ _ _ => (pv 8))))
      (pss_cons (ps_setLc (i := 6) (own := [("guest", 9)]) (by rfl) (sc_order_in).nd rfl rfl (sw_true rfl rfl rfl (by decide +kernel)) (pi_seq (pv 4)) (blkOk_by (by kernel_rfl)) (fun _ _ _ _ _ => (pg_name (i := 9) (sc_order_in).nd rfl (by first | exact Or.inl rfl | exact Or.inr rfl))) (fun _ _ _ _ _ => (pts_one (pt_cmpR op_notIn_seq (pv 9) (pv 5) (by rfl)))) (fun _ _ _ _ _ => (pv 9)))
      (pss_cons (ps_if (pt_cmpR (op_eqD hr.units) (pv 6) (pe_lst pa_nil) (nomark _)) (pss_one (ps_ret pe_non)) pss_nil)
      (pss_cons (ps_expr (pe_bm PySem.F.plainAttrs_list PySem.F.slot_list_append PySem.F.type_list_append mt_append (pv 3) (pa_cons (pe_ix ix_seq (pv 6) pe_int (fun _ _ => rfl)) pa_nil)))
      (pss_one (ps_expr (pe_bm PySem.F.plainAttrs_list PySem.F.slot_list_remove PySem.F.type_list_remove mt_remove (pv 4) (pa_cons (pe_ix ix_seq (pv 6) pe_int (fun _ _ => rfl)) pa_nil)))))))))
      (pss_one (ps_ret (pe_callTy call_tupleN (by rfl) T.A.n_tuple (by decide +kernel) (pa_cons (pv 3) pa_nil))))))
def t_is_outcome_in (K : PySem.W.Frag) (sp_lacking_in : Sp) (sp_order_in : Sp) : TS := (tRet (tAndV (tOp (rEqD K) (tCall sp_lacking_in [] E0 (tCons (tVar 0) (tCons (tVar 1) tNil))) (tLst tNil)) (tOp rNotN (tCall sp_order_in [] E0 (tCons (tVar 0) (tCons (tVar 1) tNil))) (tC .non))))
theorem dv_is_outcome_in {P : Program} {w : World} {K : PySem.W.Frag} {mg : Str → Option Value} {base : Heap} {k : Nat} {cdv : Value} {A : Around} {outer : List Env} {s : Shared} {H : Hp} {E : XK} (T : Tx K mg) {sp_lacking_in : Sp} (G_lacking_in : FnOk P w K mg base CX0 k T.lacking_in.f T.lacking_in.fd P_lacking_in sp_lacking_in) {sp_order_in : Sp} (G_order_in : FnOk P w K mg base CX0 k T.order_in.f T.order_in.fd P_order_in sp_order_in)
    (hr : Room k (A.deeper (envOfC "is_outcome_in" (defScope s_is_outcome_in) s.heap.objs.size T.is_outcome_in.f cdv))) : PSs (cxOf CX0 P w K mg base N_is_outcome_in "is_outcome_in" (defScope s_is_outcome_in) T.is_outcome_in.f cdv A outer s H E).nox (defBody s_is_outcome_in) (t_is_outcome_in K sp_lacking_in sp_order_in) :=
  (pss_one (ps_ret (pe_and (pe_cmpR (op_eqD hr.units) (pe_call G_lacking_in hr (by rfl) T.lacking_in.g T.lacking_in.F.kp T.lacking_in.b .nil pass0 (pa_cons (pv 0) (pa_cons (pv 1) pa_nil))) (pe_lst pa_nil) (nomark _)) (pe_one (pe_cmpR op_notN (pe_call G_order_in hr (by rfl) T.order_in.g T.order_in.F.kp T.order_in.b .nil pass0 (pa_cons (pv 0) (pa_cons (pv 1) pa_nil))) pe_non (nomark _))))))
def t_is_along (K : PySem.W.Frag) (sp_is_order_in : Sp) (sp_lacking_in : Sp) (sp_arrows_in : Sp) : TS := (tSeq (tIfS (tOr (tNot (tB (tCall sp_is_order_in [] E0 (tCons (tVar 0) (tCons (tVar 2) tNil))))) (tTest (tOp (rNeD K) (tCall sp_lacking_in [] E0 (tCons (tVar 0) (tCons (tVar 1) tNil))) (tLst tNil)))) (tRet (tC (.bl false))) tNext)
    (tRet (tCB (rAll K) (tCons (tLc (iSeq K (tCall sp_arrows_in [] E0 (tCons (tVar 0) (tCons (tVar 1) tNil)))) (gTup K 2 (gCons (gName 3) (gCons (gName 4) gNil))) tYes (tOp rLtI (tIdx (tVar 2) (tVar 3)) (tIdx (tVar 2) (tVar 4))) [3, 4]) tNil))))
theorem dv_is_along {P : Program} {w : World} {K : PySem.W.Frag} {mg : Str → Option Value} {base : Heap} {k : Nat} {cdv : Value} {A : Around} {outer : List Env} {s : Shared} {H : Hp} {E : XK} (T : Tx K mg) {sp_is_order_in : Sp} (G_is_order_in : FnOk P w K mg base CX0 k T.is_order_in.f T.is_order_in.fd P_is_order_in sp_is_order_in) {sp_lacking_in : Sp} (G_lacking_in : FnOk P w K mg base CX0 k T.lacking_in.f T.lacking_in.fd P_lacking_in sp_lacking_in) {sp_arrows_in : Sp} (G_arrows_in : FnOk P w K mg base CX0 k T.arrows_in.f T.arrows_in.fd P_arrows_in sp_arrows_in)
    (hr : Room k (A.deeper (envOfC "is_along" (defScope s_is_along) s.heap.objs.size T.is_along.f cdv))) : PSs (cxOf CX0 P w K mg base N_is_along "is_along" (defScope s_is_along) T.is_along.f cdv A outer s H E).nox (defBody s_is_along) (t_is_along K sp_is_order_in sp_lacking_in sp_arrows_in) :=
  (pss_cons (ps_if (PW.pt (pw_or (pt_not (pt_val (pe_call G_is_order_in hr (by rfl) T.is_order_in.g T.is_order_in.F.kp T.is_order_in.b .nil pass0 (pa_cons (pv 0) (pa_cons (pv 2) pa_nil))))) (pw_or1 (pt_cmpR (op_neD hr.units) (pe_call G_lacking_in hr (by rfl) T.lacking_in.g T.lacking_in.F.kp T.lacking_in.b .nil pass0 (pa_cons (pv 0) (pa_cons (pv 1) pa_nil))) (pe_lst pa_nil) (nomark _))))) (pss_one (ps_ret pe_bl)) pss_nil)
      (pss_one (ps_ret (pe_callB (cr_all rfl) (by rfl) T.A.n_all (by decide +kernel) (pa_cons (pe_lc (own := [("first", 3), ("later", 4)]) (by rfl) (sc_is_along).nd (pi_seq (pe_call G_arrows_in hr (by rfl) T.arrows_in.g T.arrows_in.F.kp T.arrows_in.b .nil pass0 (pa_cons (pv 0) (pa_cons (pv 1) pa_nil)))) (blkOk_by (by kernel_rfl)) (fun _ _ _ _ _ => (pg_tup rfl (pgs_cons (pg_name (i := 3) (sc_is_along).nd rfl (by first | exact Or.inl rfl | exact Or.inr rfl)) (pgs_cons (pg_name (i := 4) (sc_is_along).nd rfl (by first | exact Or.inl rfl | exact Or.inr rfl)) pgs_nil)))) (fun _ _ _ _ _ => pts_nil) (fun _ _ _ _ _ => (pe_cmpR op_lt (pe_idx (pv 2) (pv 3)) (pe_idx (pv 2) (pv 4)) (nomark _)))) pa_nil)))))
def t_is_outcome (K : PySem.W.Frag) (sp_sure_held : Sp) (sp_is_outcome_in : Sp) : TS := (tSeq (tAsg (tCall sp_sure_held [] E0 (tCons (tVar 0) (tCons (tVar 1) tNil))) (gTup K 2 (gCons (gName 2) (gCons (gName 3) gNil))))
    (tRet (tCall sp_is_outcome_in [] E0 (tCons (tVar 2) (tCons (tVar 3) tNil)))))
theorem dv_is_outcome {P : Program} {w : World} {K : PySem.W.Frag} {mg : Str → Option Value} {base : Heap} {k : Nat} {cdv : Value} {A : Around} {outer : List Env} {s : Shared} {H : Hp} {E : XK} (T : Tx K mg) {sp_sure_held : Sp} (G_sure_held : FnOk P w K mg base (L2.CX P w) k T.sure_held.f T.sure_held.fd P_sure_held sp_sure_held) {sp_is_outcome_in : Sp} (G_is_outcome_in : FnOk P w K mg base CX0 k T.is_outcome_in.f T.is_outcome_in.fd P_is_outcome_in sp_is_outcome_in)
    (hr : Room k (A.deeper (envOfC "is_outcome" (defScope s_is_outcome) s.heap.objs.size T.is_outcome.f cdv))) : PSs (cxOf CX0 P w K mg base N_is_outcome "is_outcome" (defScope s_is_outcome) T.is_outcome.f cdv A outer s H E).nox (defBody s_is_outcome) (t_is_outcome K sp_sure_held sp_is_outcome_in) :=
  (pss_cons (ps_asg (pe_call G_sure_held hr (by rfl) T.sure_held.g T.sure_held.F.kp T.sure_held.b .nil passL (pa_cons (pv 0) (pa_cons (pv 1) pa_nil))) (pg_tup rfl (pgs_cons (pg_name (i := 2) (sc_is_outcome).nd rfl (by first | exact Or.inl rfl | exact Or.inr rfl)) (pgs_cons (pg_name (i := 3) (sc_is_outcome).nd rfl (by first | exact Or.inl rfl | exact Or.inr rfl)) pgs_nil))))
      (pss_one (ps_ret (pe_call G_is_outcome_in hr (by rfl) T.is_outcome_in.g T.is_outcome_in.F.kp T.is_outcome_in.b .nil pass0 (pa_cons (pv 2) (pa_cons (pv 3) pa_nil))))))
def t_order_of (K : PySem.W.Frag) (sp_sure_held : Sp) (sp_is_outcome_in : Sp) (sp_order_in : Sp) : TS := (tSeq (tAsg (tCall sp_sure_held [] E0 (tCons (tVar 0) (tCons (tVar 1) tNil))) (gTup K 2 (gCons (gName 2) (gCons (gName 3) gNil))))
    (tSeq (tIfS (tNot (tB (tCall sp_is_outcome_in [] E0 (tCons (tVar 2) (tCons (tVar 3) tNil))))) tNever tNext)
    (tRet (tCall sp_order_in [] E0 (tCons (tVar 2) (tCons (tVar 3) tNil))))))
theorem dv_order_of {P : Program} {w : World} {K : PySem.W.Frag} {mg : Str → Option Value} {base : Heap} {k : Nat} {cdv : Value} {A : Around} {outer : List Env} {s : Shared} {H : Hp} {E : XK} (T : Tx K mg) {sp_sure_held : Sp} (G_sure_held : FnOk P w K mg base (L2.CX P w) k T.sure_held.f T.sure_held.fd P_sure_held sp_sure_held) {sp_is_outcome_in : Sp} (G_is_outcome_in : FnOk P w K mg base CX0 k T.is_outcome_in.f T.is_outcome_in.fd P_is_outcome_in sp_is_outcome_in) {sp_order_in : Sp} (G_order_in : FnOk P w K mg base CX0 k T.order_in.f T.order_in.fd P_order_in sp_order_in)
    (hr : Room k (A.deeper (envOfC "order_of" (defScope s_order_of) s.heap.objs.size T.order_of.f cdv))) : PSs (cxOf CX0 P w K mg base N_order_of "order_of" (defScope s_order_of) T.order_of.f cdv A outer s H E).nox (defBody s_order_of) (t_order_of K sp_sure_held sp_is_outcome_in sp_order_in) :=
  (pss_cons (ps_asg (pe_call G_sure_held hr (by rfl) T.sure_held.g T.sure_held.F.kp T.sure_held.b .nil passL (pa_cons (pv 0) (pa_cons (pv 1) pa_nil))) (pg_tup rfl (pgs_cons (pg_name (i := 2) (sc_order_of).nd rfl (by first | exact Or.inl rfl | exact Or.inr rfl)) (pgs_cons (pg_name (i := 3) (sc_order_of).nd rfl (by first | exact Or.inl rfl | exact Or.inr rfl)) pgs_nil))))
      (pss_cons (ps_if (pt_not (pt_val (pe_call G_is_outcome_in hr (by rfl) T.is_outcome_in.g T.is_outcome_in.F.kp T.is_outcome_in.b .nil pass0 (pa_cons (pv 2) (pa_cons (pv 3) pa_nil))))) (pss_one ps_never) pss_nil)
      (pss_one (ps_ret (pe_call G_order_in hr (by rfl) T.order_in.g T.order_in.F.kp T.order_in.b .nil pass0 (pa_cons (pv 2) (pa_cons (pv 3) pa_nil)))))))
def t_is_order_of (K : PySem.W.Frag) (sp_sure_held : Sp) (sp_is_along : Sp) : TS := (tSeq (tAsg (tCall sp_sure_held [] E0 (tCons (tVar 0) (tCons (tVar 1) tNil))) (gTup K 2 (gCons (gName 3) (gCons (gName 4) gNil))))
    (tRet (tCall sp_is_along [] E0 (tCons (tVar 3) (tCons (tVar 4) (tCons (tVar 2) tNil))))))
theorem dv_is_order_of {P : Program} {w : World} {K : PySem.W.Frag} {mg : Str → Option Value} {base : Heap} {k : Nat} {cdv : Value} {A : Around} {outer : List Env} {s : Shared} {H : Hp} {E : XK} (T : Tx K mg) {sp_sure_held : Sp} (G_sure_held : FnOk P w K mg base (L2.CX P w) k T.sure_held.f T.sure_held.fd P_sure_held sp_sure_held) {sp_is_along : Sp} (G_is_along : FnOk P w K mg base CX0 k T.is_along.f T.is_along.fd P_is_along sp_is_along)
    (hr : Room k (A.deeper (envOfC "is_order_of" (defScope s_is_order_of) s.heap.objs.size T.is_order_of.f cdv))) : PSs (cxOf CX0 P w K mg base N_is_order_of "is_order_of" (defScope s_is_order_of) T.is_order_of.f cdv A outer s H E).nox (defBody s_is_order_of) (t_is_order_of K sp_sure_held sp_is_along) :=
  (pss_cons (ps_asg (pe_call G_sure_held hr (by rfl) T.sure_held.g T.sure_held.F.kp T.sure_held.b .nil passL (pa_cons (pv 0) (pa_cons (pv 1) pa_nil))) (pg_tup rfl (pgs_cons (pg_name (i := 3) (sc_is_order_of).nd rfl (by first | exact Or.inl rfl | exact Or.inr rfl)) (pgs_cons (pg_name (i := 4) (sc_is_order_of).nd rfl (by first | exact Or.inl rfl | exact Or.inr rfl)) pgs_nil))))
      (pss_one (ps_ret (pe_call G_is_along hr (by rfl) T.is_along.g T.is_along.F.kp T.is_along.b .nil pass0 (pa_cons (pv 3) (pa_cons (pv 4) (pa_cons (pv 2) pa_nil)))))))
def t_l_box (K : PySem.W.Frag) : TS := (tSeq (tAsg (tIf (tTest (tOp rLtI (tVar 1) (tCB (rLenQ K) (tCons (tVar 0) tNil)))) (tOp (rIx K) (tVar 0) (tVar 1)) (tC (.int 0))) (gName 2))
    (tRet (tLst (tCons (tOp rMulI (tCB rAbs (tCons (tVar 2) tNil)) (tCB rInt (tCons (tOp rGeI (tCB rAbs (tCons (tVar 2) tNil)) (tOp rPowI (tC (.int 10)) (tC (.int 18)))) tNil))) (tCons (tOp rAddI (tOp rAddI (tOp rModI (tCB rInt (tCons (tVar 2) tNil)) (tC (.int 2305843009213693951))) (tOp rMulI (tC (.int 39373)) (tVar 1))) (tC (.int 3196021))) (tCons (tC (.int 0)) tNil))))))
theorem dv_l_box {P : Program} {w : World} {K : PySem.W.Frag} {mg : Str → Option Value} {base : Heap} {k : Nat} {cdv : Value} {A : Around} {outer : List Env} {s : Shared} {H : Hp} {E : XK} (T : Tx K mg)
    (hr : Room k (A.deeper (envOfC "_law_box" (defScope s_l_box) s.heap.objs.size T.l_box.f cdv))) : PSs (cxOf CX0 P w K mg base N_l_box "_law_box" (defScope s_l_box) T.l_box.f cdv A outer s H E).nox (defBody s_l_box) (t_l_box K) :=
  (pss_cons (ps_set (i := 2) (sc_l_box).nd rfl (by first | exact Or.inl rfl | exact Or.inr rfl) (pe_ifExp (pt_cmpR op_lt (pv 1) (pe_callB call_len_seq (by rfl) T.A.n_len PySem.boot_len (pa_cons (pv 0) pa_nil)) (nomark _)) (pe_ix ix_seq (pv 0) (pv 1) (fun _ _ => rfl)) pe_int))
      (pss_one (ps_ret (pe_lst (pa_cons (pe_op op_mul (pe_callB call_abs (by rfl) T.A.n_abs (by decide +kernel) (pa_cons (pv 2) pa_nil)) (pe_callTy call_int1 (by rfl) T.A.n_int (by decide +kernel) (pa_cons (pe_cmpR op_ge (pe_callB call_abs (by rfl) T.A.n_abs (by decide +kernel) (pa_cons (pv 2) pa_nil)) (pe_op op_pow pe_int pe_int) (nomark _)) pa_nil))) (pa_cons (pe_op op_add (pe_op op_add (pe_op op_mod (pe_callTy call_int1 (by rfl) T.A.n_int (by decide +kernel) (pa_cons (pv 2) pa_nil)) pe_int) (pe_op op_mul pe_int (pv 1))) pe_int) (pa_cons pe_int pa_nil)))))))
def t_l_take (K : PySem.W.Frag) : TS := (tSeq (tIfS (tTest (tOp rGtI (tOp (rIx K) (tVar 0) (tC (.int 0))) (tC (.int 0)))) (tSeq (tAsg (tOp rModI (tCB rInt (tCons (tOp (rIx K) (tVar 0) (tC (.int 0))) tNil)) (tVar 1)) (gName 2))
    (tSeq (tAsg (tOp rDivI (tOp (rIx K) (tVar 0) (tC (.int 0))) (tVar 1)) (gSub (tVar 0) (tC (.int 0)) rSetL))
    (tRet (tVar 2)))) tNext)
    (tSeq (tAsg (tOp rAddI (tOp (rIx K) (tVar 0) (tC (.int 2))) (tC (.int 1))) (gSub (tVar 0) (tC (.int 2)) rSetL))
    (tSeq (tAsg (tOp rModI (tCB rInt (tCons (tOp rMulI (tOp rAddI (tOp (rIx K) (tVar 0) (tC (.int 1))) (tOp rMulI (tC (.int 48271)) (tOp (rIx K) (tVar 0) (tC (.int 2))))) (tOp rAddI (tC (.int 39373)) (tOp (rIx K) (tVar 0) (tC (.int 2))))) tNil)) (tC (.int 2147483647))) (gName 3))
    (tSeq (tAsg (tOp rAddI (tOp rModI (tCB rInt (tCons (tVar 3) tNil)) (tC (.int 40009))) (tC (.int 7))) (gName 4))
    (tSeq (tAsg (tOp rModI (tCB rInt (tCons (tOp rMulI (tOp rAddI (tOp rAddI (tVar 3) (tOp (rIx K) (tVar 0) (tC (.int 2)))) (tOp rDivI (tOp (rIx K) (tVar 0) (tC (.int 1))) (tC (.int 1000003)))) (tVar 4)) tNil)) (tC (.int 2147483629))) (gName 5))
    (tRet (tOp rModI (tCB rInt (tCons (tOp rDivI (tOp rModI (tCB rInt (tCons (tOp rAddI (tOp rMulI (tVar 5) (tC (.int 48271))) (tVar 3)) tNil)) (tC (.int 2147483587))) (tC (.int 64))) tNil)) (tVar 1))))))))
theorem dv_l_take {P : Program} {w : World} {K : PySem.W.Frag} {mg : Str → Option Value} {base : Heap} {k : Nat} {cdv : Value} {A : Around} {outer : List Env} {s : Shared} {H : Hp} {E : XK} (T : Tx K mg)
    (hr : Room k (A.deeper (envOfC "_law_take" (defScope s_l_take) s.heap.objs.size T.l_take.f cdv))) : PSs (cxOf CX0 P w K mg base N_l_take "_law_take" (defScope s_l_take) T.l_take.f cdv A outer s H E).nox (defBody s_l_take) (t_l_take K) :=
  (pss_cons (ps_if (pt_cmpR op_gt (pe_ix ix_seq (pv 0) pe_int (fun _ _ => rfl)) pe_int (nomark _)) (pss_cons (ps_set (i := 2) (sc_l_take).nd rfl (by first | exact Or.inl rfl | exact Or.inr rfl) (pe_op op_mod (pe_callTy call_int1 (by rfl) T.A.n_int (by decide +kernel) (pa_cons (pe_ix ix_seq (pv 0) pe_int (fun _ _ => rfl)) pa_nil)) (pv 1)))
      (pss_cons (ps_asg (pe_op op_fdiv (pe_ix ix_seq (pv 0) pe_int (fun _ _ => rfl)) (pv 1)) (pg_sub (pv 0) pe_int set_list))
      (pss_one (ps_ret (pv 2))))) pss_nil)
      (pss_cons (ps_asg (pe_op op_add (pe_ix ix_seq (pv 0) pe_int (fun _ _ => rfl)) pe_int) (pg_sub (pv 0) pe_int set_list))
      (pss_cons (ps_set (i := 3) (sc_l_take).nd rfl (by first | exact Or.inl rfl | exact Or.inr rfl) (pe_op op_mod (pe_callTy call_int1 (by rfl) T.A.n_int (by decide +kernel) (pa_cons (pe_op op_mul (pe_op op_add (pe_ix ix_seq (pv 0) pe_int (fun _ _ => rfl)) (pe_op op_mul pe_int (pe_ix ix_seq (pv 0) pe_int (fun _ _ => rfl)))) (pe_op op_add pe_int (pe_ix ix_seq (pv 0) pe_int (fun _ _ => rfl)))) pa_nil)) pe_int))
      (pss_cons (ps_set (i := 4) (sc_l_take).nd rfl (by first | exact Or.inl rfl | exact Or.inr rfl) (pe_op op_add (pe_op op_mod (pe_callTy call_int1 (by rfl) T.A.n_int (by decide +kernel) (pa_cons (pv 3) pa_nil)) pe_int) pe_int))
      (pss_cons (ps_set (i := 5) (sc_l_take).nd rfl (by first | exact Or.inl rfl | exact Or.inr rfl) (pe_op op_mod (pe_callTy call_int1 (by rfl) T.A.n_int (by decide +kernel) (pa_cons (pe_op op_mul (pe_op op_add (pe_op op_add (pv 3) (pe_ix ix_seq (pv 0) pe_int (fun _ _ => rfl))) (pe_op op_fdiv (pe_ix ix_seq (pv 0) pe_int (fun _ _ => rfl)) pe_int)) (pv 4)) pa_nil)) pe_int))
      (pss_one (ps_ret (pe_op op_mod (pe_callTy call_int1 (by rfl) T.A.n_int (by decide +kernel) (pa_cons (pe_op op_fdiv (pe_op op_mod (pe_callTy call_int1 (by rfl) T.A.n_int (by decide +kernel) (pa_cons (pe_op op_add (pe_op op_mul (pv 5) pe_int) (pv 3)) pa_nil)) pe_int) pe_int) pa_nil)) (pv 1)))))))))
def t_l_cells (K : PySem.W.Frag) : TS := (tSeq (tAsg (tOrT K (tCB (rListQ K) (tCons (tSl (rSlL K) (tVar 0) tNoPart (tPart (tVar 1))) tNil)) (tLst (tCons (tC (.int 0)) tNil))) (gName 2))
    (tSeq (tFor (iEnum K (tCons (tSl (rSlL K) (tVar 0) (tPart (tVar 1)) (tPart (tC (.int 63)))) tNil)) (gTup K 2 (gCons (gName 3) (gCons (gName 4) gNil))) (tSeq (tAsg (tOp rModI (tCB rInt (tCons (tVar 3) tNil)) (tVar 1)) (gName 5))
    (tAsg (tOp rAddI (tOp (rIx K) (tVar 2) (tVar 5)) (tOp rMulI (tVar 4) (tOp rAddI (tVar 3) (tC (.int 2))))) (gSub (tVar 2) (tVar 5) rSetL))))
    (tRet (tVar 2))))
theorem dv_l_cells {P : Program} {w : World} {K : PySem.W.Frag} {mg : Str → Option Value} {base : Heap} {k : Nat} {cdv : Value} {A : Around} {outer : List Env} {s : Shared} {H : Hp} {E : XK} (T : Tx K mg)
    (hr : Room k (A.deeper (envOfC "_law_cells" (defScope s_l_cells) s.heap.objs.size T.l_cells.f cdv))) : PSs (cxOf CX0 P w K mg base N_l_cells "_law_cells" (defScope s_l_cells) T.l_cells.f cdv A outer s H E).nox (defBody s_l_cells) (t_l_cells K) :=
  (pss_cons (ps_set (i := 2) (sc_l_cells).nd rfl (by first | exact Or.inl rfl | exact Or.inr rfl) (pe_orT (pe_callTy call_list_of (by rfl) T.A.n_list (by decide +kernel) (pa_cons (pe_slice sl_list (pv 0) po_none (po_some (pv 1))) pa_nil)) (pe_one (pe_lst (pa_cons pe_int pa_nil)))))
      (pss_cons (ps_for PassesOwn.never rfl (pi_enum (by rfl) T.A.n_enumerate (pa_cons (pe_slice sl_list (pv 0) (po_some (pv 1)) (po_some pe_int)) pa_nil)) (pg_tup rfl (pgs_cons (pg_name (i := 3) (sc_l_cells).nd rfl (by first | exact Or.inl rfl | exact Or.inr rfl)) (pgs_cons (pg_name (i := 4) (sc_l_cells).nd rfl (by first | exact Or.inl rfl | exact Or.inr rfl)) pgs_nil))) (pss_cons (ps_set (i := 5) (sc_l_cells).nd rfl (by first | exact Or.inl rfl | exact Or.inr rfl) (pe_op op_mod (pe_callTy call_int1 (by rfl) T.A.n_int (by decide +kernel) (pa_cons (pv 3) pa_nil)) (pv 1)))
      (pss_one (ps_asg (pe_op op_add (pe_ix ix_seq (pv 2) (pv 5) (fun _ _ => rfl)) (pe_op op_mul (pv 4) (pe_op op_add (pv 3) pe_int))) (pg_sub (pv 2) (pv 5) set_list)))))
      (pss_one (ps_ret (pv 2)))))
def t_l_of (K : PySem.W.Frag) (sp_l_take : Sp) : TS := (tRet (tOp (rIx K) (tVar 1) (tCall sp_l_take [] E0 (tCons (tVar 0) (tCons (tCB (rLenQ K) (tCons (tVar 1) tNil)) tNil)))))
theorem dv_l_of {P : Program} {w : World} {K : PySem.W.Frag} {mg : Str → Option Value} {base : Heap} {k : Nat} {cdv : Value} {A : Around} {outer : List Env} {s : Shared} {H : Hp} {E : XK} (T : Tx K mg) {sp_l_take : Sp} (G_l_take : FnOk P w K mg base CX0 k T.l_take.f T.l_take.fd P_l_take sp_l_take)
    (hr : Room k (A.deeper (envOfC "_law_of" (defScope s_l_of) s.heap.objs.size T.l_of.f cdv))) : PSs (cxOf CX0 P w K mg base N_l_of "_law_of" (defScope s_l_of) T.l_of.f cdv A outer s H E).nox (defBody s_l_of) (t_l_of K sp_l_take) :=
  (pss_one (ps_ret (pe_ix ix_seq (pv 1) (pe_call G_l_take hr (by rfl) T.l_take.g T.l_take.F.kp T.l_take.b .nil pass0 (pa_cons (pv 0) (pa_cons (pe_callB call_len_seq (by rfl) T.A.n_len PySem.boot_len (pa_cons (pv 1) pa_nil)) pa_nil))) (fun _ _ => rfl))))
def t_l_pick (K : PySem.W.Frag) (sp_l_take : Sp) : TS := (tSeq (tPar 3 4 (tCons (tCB (rListQ K) (tCons (tVar 1) tNil)) (tCons (tLst tNil) tNil)))
    (tSeq (tFor (iRng1 (tCons (tCB rMin2 (tCons (tCB rInt (tCons (tVar 2) tNil)) (tCons (tCB (rLenQ K) (tCons (tVar 3) tNil)) tNil))) tNil)) (gName 5) (tDrop (tBM K "list" rAppend (tVar 4) (tCons (tBM K "list" rPopAt (tVar 3) (tCons (tCall sp_l_take [] E0 (tCons (tVar 0) (tCons (tCB (rLenQ K) (tCons (tVar 3) tNil)) tNil))) tNil)) tNil))))
    (tRet (tVar 4))))
theorem dv_l_pick {P : Program} {w : World} {K : PySem.W.Frag} {mg : Str → Option Value} {base : Heap} {k : Nat} {cdv : Value} {A : Around} {outer : List Env} {s : Shared} {H : Hp} {E : XK} (T : Tx K mg) {sp_l_take : Sp} (G_l_take : FnOk P w K mg base CX0 k T.l_take.f T.l_take.fd P_l_take sp_l_take)
    (hr : Room k (A.deeper (envOfC "_law_pick" (defScope s_l_pick) s.heap.objs.size T.l_pick.f cdv))) : PSs (cxOf CX0 P w K mg base N_l_pick "_law_pick" (defScope s_l_pick) T.l_pick.f cdv A outer s H E).nox (defBody s_l_pick) (t_l_pick K sp_l_take) :=
  (pss_cons (ps_par (by rfl) (sc_l_pick).nd rfl rfl (by decide) rfl rfl (pa_cons (pe_callTy call_list_of (by rfl) T.A.n_list (by decide +kernel) (pa_cons (pv 1) pa_nil)) (pa_cons (pe_lst pa_nil) pa_nil)) (by rfl))
      (pss_cons (ps_for PassesOwn.never rfl (pi_range1 (by rfl) T.A.n_range (pa_cons (pe_callB (call_min2 rfl) (by rfl) T.A.n_min (by decide +kernel) (pa_cons (pe_callTy call_int1 (by rfl) T.A.n_int (by decide +kernel) (pa_cons (pv 2) pa_nil)) (pa_cons (pe_callB call_len_seq (by rfl) T.A.n_len PySem.boot_len (pa_cons (pv 3) pa_nil)) pa_nil))) pa_nil)) (pg_name (i := 5) (sc_l_pick).nd rfl (by first | exact Or.inl rfl | exact Or.inr rfl)) (pss_one (ps_expr (pe_bm PySem.F.plainAttrs_list PySem.F.slot_list_append PySem.F.type_list_append mt_append (pv 4) (pa_cons (pe_bm PySem.F.plainAttrs_list PySem.F.slot_list_pop PySem.F.type_list_pop mt_popAt (pv 3) (pa_cons (pe_call G_l_take hr (by rfl) T.l_take.g T.l_take.F.kp T.l_take.b .nil pass0 (pa_cons (pv 0) (pa_cons (pe_callB call_len_seq (by rfl) T.A.n_len PySem.boot_len (pa_cons (pv 3) pa_nil)) pa_nil))) pa_nil)) pa_nil)))))
      (pss_one (ps_ret (pv 4)))))
def t_l_lists (K : PySem.W.Frag) (sp_l_lists : Sp) : TS := (tRet (tIf (tB (tCB (rIsiT K) (tCons (tVar 0) (tCons (tTup (tCons (tC (.ty "list")) (tCons (tC (.ty "tuple")) tNil))) tNil)))) (tLc (iSeq K (tVar 0)) (gName 1) tYes (tCall sp_l_lists [] E0 (tCons (tVar 1) tNil)) [1]) (tVar 0)))
theorem dv_l_lists {P : Program} {w : World} {K : PySem.W.Frag} {mg : Str → Option Value} {base : Heap} {k : Nat} {cdv : Value} {A : Around} {outer : List Env} {s : Shared} {H : Hp} {E : XK} (T : Tx K mg) {sp_l_lists : Sp} (G_l_lists : FnOk P w K mg base CX0 k T.l_lists.f T.l_lists.fd P_l_lists sp_l_lists)
    (hr : Room k (A.deeper (envOfC "_law_lists" (defScope s_l_lists) s.heap.objs.size T.l_lists.f cdv))) : PSs (cxOf CX0 P w K mg base N_l_lists "_law_lists" (defScope s_l_lists) T.l_lists.f cdv A outer s H E).nox (defBody s_l_lists) (t_l_lists K sp_l_lists) :=
  (pss_one (ps_ret (pe_ifExp (pt_val (pe_callB call_isiT (by rfl) T.A.n_isinstance (by decide +kernel) (pa_cons (pv 0) (pa_cons (pe_tup (pa_cons (pe_bltn (v := .ty "list") (by rfl) T.A.n_list boot_list rfl) (pa_cons (pe_bltn (v := .ty "tuple") (by rfl) T.A.n_tuple boot_tuple rfl) pa_nil))) pa_nil)))) (pe_lc (own := [("_law_bit", 1)]) (by rfl) (sc_l_lists).nd (pi_seq (pv 0)) (blkOk_by (by kernel_rfl)) (fun _ _ _ _ _ => (pg_name (i := 1) (sc_l_lists).nd rfl (by first | exact Or.inl rfl | exact Or.inr rfl))) (fun _ _ _ _ _ => pts_nil) (fun _ _ _ _ _ => (pe_call G_l_lists hr (by rfl) T.l_lists.g T.l_lists.F.kp T.l_lists.b .nil pass0 (pa_cons (pv 1) pa_nil)))) (pv 0))))
def t_l_same (K : PySem.W.Frag) (sp_l_same : Sp) : TS := (tSeq (tIfS (tB (tCB (rIsiT K) (tCons (tVar 1) (tCons (tTup (tCons (tC (.ty "list")) (tCons (tC (.ty "tuple")) tNil))) tNil)))) (tSeq (tIfS (tOr (tTest (tOp (rNeD K) (tCB (rIsi K) (tCons (tVar 0) (tCons (tC (.ty "list")) tNil))) (tCB (rIsi K) (tCons (tVar 1) (tCons (tC (.ty "list")) tNil))))) (tTest (tOp (rNeD K) (tCB (rIsi K) (tCons (tVar 0) (tCons (tC (.ty "tuple")) tNil))) (tCB (rIsi K) (tCons (tVar 1) (tCons (tC (.ty "tuple")) tNil)))))) (tRet (tC (.bl false))) tNext)
    (tRet (tAndV (tOp (rEqD K) (tCB (rLenQ K) (tCons (tVar 0) tNil)) (tCB (rLenQ K) (tCons (tVar 1) tNil))) (tCB (rAll K) (tCons (tLc (RZ.iZipA K (tCons (tVar 0) (tCons (tVar 1) tNil))) (gTup K 2 (gCons (gName 2) (gCons (gName 3) gNil))) tYes (tCall sp_l_same [] E0 (tCons (tVar 2) (tCons (tVar 3) tNil))) [2, 3]) tNil))))) tNext)
    (tSeq (tIfS (tOr (tTest (tOp rIsN (tVar 1) (tC .non))) (tB (tCB (rIsiT K) (tCons (tVar 1) (tCons (tTup (tCons (tC (.ty "bool")) (tCons (tC (.ty "str")) tNil))) tNil))))) (tRet (tAndV (tOp (rEqD K) (tVar 0) (tVar 1)) (tAndV (tOp (rEqD K) (tCB (rIsi K) (tCons (tVar 0) (tCons (tC (.ty "bool")) tNil))) (tCB (rIsi K) (tCons (tVar 1) (tCons (tC (.ty "bool")) tNil)))) (tOp (rEqD K) (tOp rIsN (tVar 0) (tC .non)) (tOp rIsN (tVar 1) (tC .non)))))) tNext)
    (tRet (tAndV (tCB (rIsi K) (tCons (tVar 0) (tCons (tC (.ty "int")) tNil))) (tAndV (tNotV (tCB (rIsi K) (tCons (tVar 0) (tCons (tC (.ty "bool")) tNil)))) (tOp (rEqD K) (tVar 0) (tVar 1)))))))
theorem dv_l_same {P : Program} {w : World} {K : PySem.W.Frag} {mg : Str → Option Value} {base : Heap} {k : Nat} {cdv : Value} {A : Around} {outer : List Env} {s : Shared} {H : Hp} {E : XK} (T : Tx K mg) {sp_l_same : Sp} (G_l_same : FnOk P w K mg base CX0 k T.l_same.f T.l_same.fd P_l_same sp_l_same)
    (hr : Room k (A.deeper (envOfC "_law_same" (defScope s_l_same) s.heap.objs.size T.l_same.f cdv))) : PSs (cxOf CX0 P w K mg base N_l_same "_law_same" (defScope s_l_same) T.l_same.f cdv A outer s H E).nox (defBody s_l_same) (t_l_same K sp_l_same) :=
  (pss_cons (ps_if (pt_val (pe_callB call_isiT (by rfl) T.A.n_isinstance (by decide +kernel) (pa_cons (pv 1) (pa_cons (pe_tup (pa_cons (pe_bltn (v := .ty "list") (by rfl) T.A.n_list boot_list rfl) (pa_cons (pe_bltn (v := .ty "tuple") (by rfl) T.A.n_tuple boot_tuple rfl) pa_nil))) pa_nil)))) (pss_cons (ps_if (PW.pt (pw_or (pt_cmpR (op_neD hr.units) (pe_callB call_isi (by rfl) T.A.n_isinstance (by decide +kernel) (pa_cons (pv 0) (pa_cons (pe_bltn (v := .ty "list") (by rfl) T.A.n_list boot_list rfl) pa_nil))) (pe_callB call_isi (by rfl) T.A.n_isinstance (by decide +kernel) (pa_cons (pv 1) (pa_cons (pe_bltn (v := .ty "list") (by rfl) T.A.n_list boot_list rfl) pa_nil))) (nomark _)) (pw_or1 (pt_cmpR (op_neD hr.units) (pe_callB call_isi (by rfl) T.A.n_isinstance (by decide +kernel) (pa_cons (pv 0) (pa_cons (pe_bltn (v := .ty "tuple") (by rfl) T.A.n_tuple boot_tuple rfl) pa_nil))) (pe_callB call_isi (by rfl) T.A.n_isinstance (by decide +kernel) (pa_cons (pv 1) (pa_cons (pe_bltn (v := .ty "tuple") (by rfl) T.A.n_tuple boot_tuple rfl) pa_nil))) (nomark _))))) (pss_one (ps_ret pe_bl)) pss_nil)
      (pss_one (ps_ret (pe_and (pe_cmpR (op_eqD hr.units) (pe_callB call_len_seq (by rfl) T.A.n_len PySem.boot_len (pa_cons (pv 0) pa_nil)) (pe_callB call_len_seq (by rfl) T.A.n_len PySem.boot_len (pa_cons (pv 1) pa_nil)) (nomark _)) (pe_one (pe_callB (cr_all rfl) (by rfl) T.A.n_all (by decide +kernel) (pa_cons (pe_lc (own := [("_law_mine", 2), ("_law_its", 3)]) (by rfl) (sc_l_same).nd (RZ.pi_zipA (by rfl) T.A.n_zip (pa_cons (pv 0) (pa_cons (pv 1) pa_nil))) (blkOk_by (by kernel_rfl)) (fun _ _ _ _ _ => (pg_tup rfl (pgs_cons (pg_name (i := 2) (sc_l_same).nd rfl (by first | exact Or.inl rfl | exact Or.inr rfl)) (pgs_cons (pg_name (i := 3) (sc_l_same).nd rfl (by first | exact Or.inl rfl | exact Or.inr rfl)) pgs_nil)))) (fun _ _ _ _ _ => pts_nil) (fun _ _ _ _ _ => (pe_call G_l_same hr (by rfl) T.l_same.g T.l_same.F.kp T.l_same.b .nil pass0 (pa_cons (pv 2) (pa_cons (pv 3) pa_nil))))) pa_nil))))))) pss_nil)
      (pss_cons (ps_if (PW.pt (pw_or (pt_cmpR op_isN (pv 1) pe_non (nomark _)) (pw_or1 (pt_val (pe_callB call_isiT (by rfl) T.A.n_isinstance (by decide +kernel) (pa_cons (pv 1) (pa_cons (pe_tup (pa_cons (pe_bltn (v := .ty "bool") (by rfl) T.A.n_bool boot_bool rfl) (pa_cons (pe_bltn (v := .ty "str") (by rfl) T.A.n_str boot_str rfl) pa_nil))) pa_nil))))))) (pss_one (ps_ret (pe_and (pe_cmpR (op_eqD hr.units) (pv 0) (pv 1) (nomark _)) (pe_and (pe_cmpR (op_eqD hr.units) (pe_callB call_isi (by rfl) T.A.n_isinstance (by decide +kernel) (pa_cons (pv 0) (pa_cons (pe_bltn (v := .ty "bool") (by rfl) T.A.n_bool boot_bool rfl) pa_nil))) (pe_callB call_isi (by rfl) T.A.n_isinstance (by decide +kernel) (pa_cons (pv 1) (pa_cons (pe_bltn (v := .ty "bool") (by rfl) T.A.n_bool boot_bool rfl) pa_nil))) (nomark _)) (pe_one (pe_cmpR (op_eqD hr.units) (pe_cmpR op_isN (pv 0) pe_non (nomark _)) (pe_cmpR op_isN (pv 1) pe_non (nomark _)) (nomark _))))))) pss_nil)
      (pss_one (ps_ret (pe_and (pe_callB call_isi (by rfl) T.A.n_isinstance (by decide +kernel) (pa_cons (pv 0) (pa_cons (pe_bltn (v := .ty "int") (by rfl) T.A.n_int boot_int rfl) pa_nil))) (pe_and (pe_not (pe_callB call_isi (by rfl) T.A.n_isinstance (by decide +kernel) (pa_cons (pv 0) (pa_cons (pe_bltn (v := .ty "bool") (by rfl) T.A.n_bool boot_bool rfl) pa_nil)))) (pe_one (pe_cmpR (op_eqD hr.units) (pv 0) (pv 1) (nomark _)))))))))
def t_l_seat (K : PySem.W.Frag) : TS := (tSeq (tAsg (tOp (rIx K) (tOp (rIx K) (tVar 0) (tC (.int 1))) (tVar 2)) (gTup K 2 (gCons (gName 3) (gCons (gName 4) gNil))))
    (tSeq (tIfS (tTest (tOp (rIn K true) (tVar 3) (tVar 1))) (tRet (tVar 3)) tNext)
    (tRet (tIf (tTest (tOp (rIn K true) (tVar 4) (tVar 1))) (tVar 4) (tC .non)))))
theorem dv_l_seat {P : Program} {w : World} {K : PySem.W.Frag} {mg : Str → Option Value} {base : Heap} {k : Nat} {cdv : Value} {A : Around} {outer : List Env} {s : Shared} {H : Hp} {E : XK} (T : Tx K mg)
    (hr : Room k (A.deeper (envOfC "_law_seat" (defScope s_l_seat) s.heap.objs.size T.l_seat.f cdv))) : PSs (cxOf CX0 P w K mg base N_l_seat "_law_seat" (defScope s_l_seat) T.l_seat.f cdv A outer s H E).nox (defBody s_l_seat) (t_l_seat K) :=
  (pss_cons (ps_asg (pe_ix ix_seq (pe_ix ix_seq (pv 0) pe_int (fun _ _ => rfl)) (pv 2) (fun _ _ => rfl)) (pg_tup rfl (pgs_cons (pg_name (i := 3) (sc_l_seat).nd rfl (by first | exact Or.inl rfl | exact Or.inr rfl)) (pgs_cons (pg_name (i := 4) (sc_l_seat).nd rfl (by first | exact Or.inl rfl | exact Or.inr rfl)) pgs_nil))))
      (pss_cons (ps_if (pt_cmpR op_notIn_seq (pv 3) (pv 1) (by rfl)) (pss_one (ps_ret (pv 3))) pss_nil)
      (pss_one (ps_ret (pe_ifExp (pt_cmpR op_notIn_seq (pv 4) (pv 1) (by rfl)) (pv 4) pe_non)))))
def t_l_run (K : PySem.W.Frag) (sp_l_seat : Sp) : TS := (tSeq (tPar 2 3 (tCons (tOp rRep (tLst (tCons (tC .non) tNil)) (tCB (rLenQ K) (tCons (tOp (rIx K) (tVar 0) (tC (.int 1))) tNil))) (tCons (tLst tNil) tNil)))
    (tSeq (tFor (iSeq K (tVar 1)) (gName 4) (tSeq (tAsg (tCall sp_l_seat [] E0 (tCons (tVar 0) (tCons (tVar 3) (tCons (tVar 4) tNil)))) (gName 5))
    (tSeq (tAsg (tVar 5) (gSub (tVar 2) (tVar 4) rSetL))
    (tIfS (tTest (tOp rNotN (tVar 5) (tC .non))) (tDrop (tBM K "list" rAppend (tVar 3) (tCons (tVar 5) tNil))) tNext))))
    (tRet (tCB (rTupN K) (tCons (tVar 2) tNil)))))
theorem dv_l_run {P : Program} {w : World} {K : PySem.W.Frag} {mg : Str → Option Value} {base : Heap} {k : Nat} {cdv : Value} {A : Around} {outer : List Env} {s : Shared} {H : Hp} {E : XK} (T : Tx K mg) {sp_l_seat : Sp} (G_l_seat : FnOk P w K mg base CX0 k T.l_seat.f T.l_seat.fd P_l_seat sp_l_seat)
    (hr : Room k (A.deeper (envOfC "_law_run" (defScope s_l_run) s.heap.objs.size T.l_run.f cdv))) : PSs (cxOf CX0 P w K mg base N_l_run "_law_run" (defScope s_l_run) T.l_run.f cdv A outer s H E).nox (defBody s_l_run) (t_l_run K sp_l_seat) :=
  (pss_cons (ps_par (by rfl) (sc_l_run).nd rfl rfl (by decide) rfl rfl (pa_cons (pe_op op_rep (pe_lst (pa_cons pe_non pa_nil)) (pe_callB call_len_seq (by rfl) T.A.n_len PySem.boot_len (pa_cons (pe_ix ix_seq (pv 0) pe_int (fun _ _ => rfl)) pa_nil))) (pa_cons (pe_lst pa_nil) pa_nil)) (by rfl))
      (pss_cons (ps_for PassesOwn.never rfl (pi_seq (pv 1)) (pg_name (i := 4) (sc_l_run).nd rfl (by first | exact Or.inl rfl | exact Or.inr rfl)) (pss_cons (ps_set (i := 5) (sc_l_run).nd rfl (by first | exact Or.inl rfl | exact Or.inr rfl) (pe_call G_l_seat hr (by rfl) T.l_seat.g T.l_seat.F.kp T.l_seat.b .nil pass0 (pa_cons (pv 0) (pa_cons (pv 3) (pa_cons (pv 4) pa_nil)))))
      (pss_cons (ps_asg (pv 5) (pg_sub (pv 2) (pv 4) set_list))
      (pss_one (ps_if (pt_cmpR op_notN (pv 5) pe_non (nomark _)) (pss_one (ps_expr (pe_bm PySem.F.plainAttrs_list PySem.F.slot_list_append PySem.F.type_list_append mt_append (pv 3) (pa_cons (pv 5) pa_nil)))) pss_nil)))))
      (pss_one (ps_ret (pe_callTy call_tupleN (by rfl) T.A.n_tuple (by decide +kernel) (pa_cons (pv 2) pa_nil))))))
def t_l_arrows (K : PySem.W.Frag) : TS := (tSeq (tAsg tDNewT (gName 2))
    (tSeq (tFor (iEnumT K (tCons (tVar 1) tNil)) (gTup K 2 (gCons (gName 3) (gCons (gName 4) gNil))) (tFor (iEnumT K (tCons (tVar 1) tNil)) (gTup K 2 (gCons (gName 5) (gCons (gName 6) gNil))) (tSeq (tIfS (tOr (tTest (tOp (rEqD K) (tVar 5) (tVar 3))) (tOr (tTest (tOp rIsN (tVar 6) (tC .non))) (tTest (tOp (rIn K true) (tVar 6) (tOp (rIx K) (tOp (rIx K) (tVar 0) (tC (.int 1))) (tVar 3)))))) tCont tNext)
    (tIfS (tOr (tTest (tOp rIsN (tVar 4) (tC .non))) (tAnd (tTest (tOp (rEqD K) (tVar 4) (tOp (rIx K) (tOp (rIx K) (tOp (rIx K) (tVar 0) (tC (.int 1))) (tVar 3)) (tC (.int 1))))) (tTest (tOp (rEqD K) (tVar 6) (tOp (rIx K) (tOp (rIx K) (tOp (rIx K) (tVar 0) (tC (.int 1))) (tVar 3)) (tC (.int 0))))))) (sDPut (tVar 2) (tTup (tCons (tVar 5) (tCons (tVar 3) tNil))) (tC (.bl true))) tNext))))
    (tRet (tCB (rTupN K) (tCons (tCB (rSortDT K) (tCons (tVar 2) tNil)) tNil)))))
theorem dv_l_arrows {P : Program} {w : World} {K : PySem.W.Frag} {mg : Str → Option Value} {base : Heap} {k : Nat} {cdv : Value} {A : Around} {outer : List Env} {s : Shared} {H : Hp} {E : XK} (T : Tx K mg)
    (hr : Room k (A.deeper (envOfC "_law_arrows" (defScope s_l_arrows) s.heap.objs.size T.l_arrows.f cdv))) : PSs (cxOf CX0 P w K mg base N_l_arrows "_law_arrows" (defScope s_l_arrows) T.l_arrows.f cdv A outer s H E).nox (defBody s_l_arrows) (t_l_arrows K) :=
  (pss_cons (ps_set (i := 2) (sc_l_arrows).nd rfl (by first | exact Or.inl rfl | exact Or.inr rfl) pe_dnewT)
      (pss_cons (ps_for PassesOwn.never rfl (pi_enumT (by rfl) T.A.n_enumerate (pa_cons (pv 1) pa_nil)) (pg_tup rfl (pgs_cons (pg_name (i := 3) (sc_l_arrows).nd rfl (by first | exact Or.inl rfl | exact Or.inr rfl)) (pgs_cons (pg_name (i := 4) (sc_l_arrows).nd rfl (by first | exact Or.inl rfl | exact Or.inr rfl)) pgs_nil))) (pss_one (ps_for PassesOwn.never rfl (pi_enumT (by rfl) T.A.n_enumerate (pa_cons (pv 1) pa_nil)) (pg_tup rfl (pgs_cons (pg_name (i := 5) (sc_l_arrows).nd rfl (by first | exact Or.inl rfl | exact Or.inr rfl)) (pgs_cons (pg_name (i := 6) (sc_l_arrows).nd rfl (by first | exact Or.inl rfl | exact Or.inr rfl)) pgs_nil))) (pss_cons (ps_if (PW.pt (pw_or (pt_cmpR (op_eqD hr.units) (pv 5) (pv 3) (nomark _)) (pw_or (pt_cmpR op_isN (pv 6) pe_non (nomark _)) (pw_or1 (pt_cmpR op_notIn_seq (pv 6) (pe_ix ix_seq (pe_ix ix_seq (pv 0) pe_int (fun _ _ => rfl)) (pv 3) (fun _ _ => rfl)) (by rfl)))))) (pss_one ps_continue) pss_nil)
      (pss_one (ps_if (PW.pt (pw_or (pt_cmpR op_isN (pv 4) pe_non (nomark _)) (pw_or1 (PW.pt (pw_and (pt_cmpR (op_eqD hr.units) (pv 4) (pe_ix ix_seq (pe_ix ix_seq (pe_ix ix_seq (pv 0) pe_int (fun _ _ => rfl)) (pv 3) (fun _ _ => rfl)) pe_int (fun _ _ => rfl)) (nomark _)) (pw_and1 (pt_cmpR (op_eqD hr.units) (pv 6) (pe_ix ix_seq (pe_ix ix_seq (pe_ix ix_seq (pv 0) pe_int (fun _ _ => rfl)) (pv 3) (fun _ _ => rfl)) pe_int (fun _ _ => rfl)) (nomark _)))))))) (pss_one (ps_dput (hu_of hr) (pv 2) (pe_tup (pa_cons (pv 5) (pa_cons (pv 3) pa_nil))) pe_bl rfl)) pss_nil))))))
      (pss_one (ps_ret (pe_callTy call_tupleN (by rfl) T.A.n_tuple (by decide +kernel) (pa_cons (pe_callB (cr_sortDT rfl) (by rfl) T.A.n_sorted (by decide +kernel) (pa_cons (pv 2) pa_nil)) pa_nil))))))
def t_l_net (K : PySem.W.Frag) (sp_l_take : Sp) (sp_l_pick : Sp) : TS := (tSeq (tPar3 3 4 5 (tCons (tOp rAddI (tC (.int 1)) (tCall sp_l_take [] E0 (tCons (tVar 0) (tCons (tVar 1) tNil)))) (tCons (tCall sp_l_take [] E0 (tCons (tVar 0) (tCons (tOp rAddI (tVar 2) (tC (.int 1))) tNil))) (tCons (tLst tNil) tNil))))
    (tSeq (tIfS (tTest (tOp rGtI (tCall sp_l_take [] E0 (tCons (tVar 0) (tCons (tC (.int 10)) tNil))) (tC (.int 0)))) (tPar 3 4 (tCons (tOp rAddI (tC (.int 2)) (tOp rModI (tCB rInt (tCons (tVar 3) tNil)) (tCB rMax2 (tCons (tC (.int 1)) (tCons (tOp rSubI (tVar 1) (tC (.int 1))) tNil))))) (tCons (tOp rAddI (tC (.int 2)) (tOp rModI (tCB rInt (tCons (tVar 4) tNil)) (tCB rMax2 (tCons (tC (.int 1)) (tCons (tOp rSubI (tVar 2) (tC (.int 1))) tNil))))) tNil))) tNext)
    (tSeq (tFor (iRng1 (tCons (tVar 4) tNil)) (gName 6) (tIfS (tTest (tOp rGtI (tVar 3) (tC (.int 1)))) (tDrop (tBM K "list" rAppend (tVar 5) (tCons (tCB (rTupN K) (tCons (tCall sp_l_pick [] E0 (tCons (tVar 0) (tCons (tLstRg (tRg1 (tVar 3))) (tCons (tC (.int 2)) tNil)))) tNil)) tNil))) tNext))
    (tRet (tTupN (tCons (tVar 3) (tCons (tCB (rTupN K) (tCons (tVar 5) tNil)) tNil)))))))
theorem dv_l_net {P : Program} {w : World} {K : PySem.W.Frag} {mg : Str → Option Value} {base : Heap} {k : Nat} {cdv : Value} {A : Around} {outer : List Env} {s : Shared} {H : Hp} {E : XK} (T : Tx K mg) {sp_l_take : Sp} (G_l_take : FnOk P w K mg base CX0 k T.l_take.f T.l_take.fd P_l_take sp_l_take) {sp_l_pick : Sp} (G_l_pick : FnOk P w K mg base CX0 k T.l_pick.f T.l_pick.fd P_l_pick sp_l_pick)
    (hr : Room k (A.deeper (envOfC "_law_net" (defScope s_l_net) s.heap.objs.size T.l_net.f cdv))) : PSs (cxOf CX0 P w K mg base N_l_net "_law_net" (defScope s_l_net) T.l_net.f cdv A outer s H E).nox (defBody s_l_net) (t_l_net K sp_l_take sp_l_pick) :=
  (pss_cons (ps_par3 (by rfl) (sc_l_net).nd rfl rfl rfl (by decide) (by decide) (by decide) rfl rfl rfl (pa_cons (pe_op op_add pe_int (pe_call G_l_take hr (by rfl) T.l_take.g T.l_take.F.kp T.l_take.b .nil pass0 (pa_cons (pv 0) (pa_cons (pv 1) pa_nil)))) (pa_cons (pe_call G_l_take hr (by rfl) T.l_take.g T.l_take.F.kp T.l_take.b .nil pass0 (pa_cons (pv 0) (pa_cons (pe_op op_add (pv 2) pe_int) pa_nil))) (pa_cons (pe_lst pa_nil) pa_nil))) (by rfl))
      (pss_cons (ps_if (pt_cmpR op_gt (pe_call G_l_take hr (by rfl) T.l_take.g T.l_take.F.kp T.l_take.b .nil pass0 (pa_cons (pv 0) (pa_cons pe_int pa_nil))) pe_int (nomark _)) (pss_one (ps_par (by rfl) (sc_l_net).nd rfl rfl (by decide) rfl rfl (pa_cons (pe_op op_add pe_int (pe_op op_mod (pe_callTy call_int1 (by rfl) T.A.n_int (by decide +kernel) (pa_cons (pv 3) pa_nil)) (pe_callB (call_max2 rfl) (by rfl) T.A.n_max (by decide +kernel) (pa_cons pe_int (pa_cons (pe_op op_sub (pv 1) pe_int) pa_nil))))) (pa_cons (pe_op op_add pe_int (pe_op op_mod (pe_callTy call_int1 (by rfl) T.A.n_int (by decide +kernel) (pa_cons (pv 4) pa_nil)) (pe_callB (call_max2 rfl) (by rfl) T.A.n_max (by decide +kernel) (pa_cons pe_int (pa_cons (pe_op op_sub (pv 2) pe_int) pa_nil))))) pa_nil)) (by rfl))) pss_nil)
      (pss_cons (ps_for PassesOwn.never rfl (pi_range1 (by rfl) T.A.n_range (pa_cons (pv 4) pa_nil)) (pg_name (i := 6) (sc_l_net).nd rfl (by first | exact Or.inl rfl | exact Or.inr rfl)) (pss_one (ps_if (pt_cmpR op_gt (pv 3) pe_int (nomark _)) (pss_one (ps_expr (pe_bm PySem.F.plainAttrs_list PySem.F.slot_list_append PySem.F.type_list_append mt_append (pv 5) (pa_cons (pe_callTy call_tupleN (by rfl) T.A.n_tuple (by decide +kernel) (pa_cons (pe_call G_l_pick hr (by rfl) T.l_pick.g T.l_pick.F.kp T.l_pick.b .nil pass0 (pa_cons (pv 0) (pa_cons (pe_listRg rfl (by rfl) T.A.n_list (prg_1 (by rfl) T.A.n_range (pv 3))) (pa_cons pe_int pa_nil)))) pa_nil)) pa_nil)))) pss_nil)))
      (pss_one (ps_ret (pe_tupN (pa_cons (pv 3) (pa_cons (pe_callTy call_tupleN (by rfl) T.A.n_tuple (by decide +kernel) (pa_cons (pv 5) pa_nil)) pa_nil))))))))
def t_l_walk (K : PySem.W.Frag) (sp_l_pick : Sp) : TS := (tRet (tCB (rTupN K) (tCons (tCall sp_l_pick [] E0 (tCons (tVar 0) (tCons (tLstRg (tRg1 (tVar 1))) (tCons (tVar 1) tNil)))) tNil)))
theorem dv_l_walk {P : Program} {w : World} {K : PySem.W.Frag} {mg : Str → Option Value} {base : Heap} {k : Nat} {cdv : Value} {A : Around} {outer : List Env} {s : Shared} {H : Hp} {E : XK} (T : Tx K mg) {sp_l_pick : Sp} (G_l_pick : FnOk P w K mg base CX0 k T.l_pick.f T.l_pick.fd P_l_pick sp_l_pick)
    (hr : Room k (A.deeper (envOfC "_law_walk" (defScope s_l_walk) s.heap.objs.size T.l_walk.f cdv))) : PSs (cxOf CX0 P w K mg base N_l_walk "_law_walk" (defScope s_l_walk) T.l_walk.f cdv A outer s H E).nox (defBody s_l_walk) (t_l_walk K sp_l_pick) :=
  (pss_one (ps_ret (pe_callTy call_tupleN (by rfl) T.A.n_tuple (by decide +kernel) (pa_cons (pe_call G_l_pick hr (by rfl) T.l_pick.g T.l_pick.F.kp T.l_pick.b .nil pass0 (pa_cons (pv 0) (pa_cons (pe_listRg rfl (by rfl) T.A.n_list (prg_1 (by rfl) T.A.n_range (pv 1))) (pa_cons (pv 1) pa_nil)))) pa_nil))))
def t_l_ahead_of (K : PySem.W.Frag) (sp_l_arrows : Sp) : TS := (tSeq (tPar3 3 4 5 (tCons (tCall sp_l_arrows [] E0 (tCons (tVar 0) (tCons (tVar 1) tNil))) (tCons (tLst tNil) (tCons (tLst (tCons (tVar 2) tNil)) tNil))))
    (tSeq (tWhile (tTest (tOp (rNeD K) (tVar 5) (tLst tNil))) (tSeq (tAsg (tLst tNil) (gName 6))
    (tSeq (tFor (iSeq K (tVar 3)) (gTup K 2 (gCons (gName 7) (gCons (gName 8) gNil))) (tIfS (tAnd (tTest (tOp (rIn K false) (tVar 8) (tVar 5))) (tTest (tOp (rIn K true) (tVar 7) (tVar 4)))) (tSeq (tDrop (tBM K "list" rAppend (tVar 4) (tCons (tVar 7) tNil)))
    (tDrop (tBM K "list" rAppend (tVar 6) (tCons (tVar 7) tNil)))) tNext))
    (tAsg (tVar 6) (gName 5)))))
    (tRet (tCB (rTupN K) (tCons (tCB (rSortIQ K) (tCons (tVar 4) tNil)) tNil)))))
theorem dv_l_ahead_of {P : Program} {w : World} {K : PySem.W.Frag} {mg : Str → Option Value} {base : Heap} {k : Nat} {cdv : Value} {A : Around} {outer : List Env} {s : Shared} {H : Hp} {E : XK} (T : Tx K mg) {sp_l_arrows : Sp} (G_l_arrows : FnOk P w K mg base CX0 k T.l_arrows.f T.l_arrows.fd P_l_arrows sp_l_arrows)
    (hr : Room k (A.deeper (envOfC "_law_ahead_of" (defScope s_l_ahead_of) s.heap.objs.size T.l_ahead_of.f cdv))) : PSs (cxOf CX0 P w K mg base N_l_ahead_of "_law_ahead_of" (defScope s_l_ahead_of) T.l_ahead_of.f cdv A outer s H E).nox (defBody s_l_ahead_of) (t_l_ahead_of K sp_l_arrows) :=
  (pss_cons (ps_par3 (by rfl) (sc_l_ahead_of).nd rfl rfl rfl (by decide) (by decide) (by decide) rfl rfl rfl (pa_cons (pe_call G_l_arrows hr (by rfl) T.l_arrows.g T.l_arrows.F.kp T.l_arrows.b .nil pass0 (pa_cons (pv 0) (pa_cons (pv 1) pa_nil))) (pa_cons (pe_lst pa_nil) (pa_cons (pe_lst (pa_cons (pv 2) pa_nil)) pa_nil))) (by rfl))
      (pss_cons (ps_while PassesOwn.never (pt_cmpR (op_neD hr.units) (pv 5) (pe_lst pa_nil) (nomark _)) (pss_cons (ps_set (i := 6) (sc_l_ahead_of).nd rfl (by first | exact Or.inl rfl | exact Or.inr rfl) (pe_lst pa_nil))
      (pss_cons (ps_for PassesOwn.never rfl (pi_seq (pv 3)) (pg_tup rfl (pgs_cons (pg_name (i := 7) (sc_l_ahead_of).nd rfl (by first | exact Or.inl rfl | exact Or.inr rfl)) (pgs_cons (pg_name (i := 8) (sc_l_ahead_of).nd rfl (by first | exact Or.inl rfl | exact Or.inr rfl)) pgs_nil))) (pss_one (ps_if (PW.pt (pw_and (pt_cmpR op_in_seq (pv 8) (pv 5) (by rfl)) (pw_and1 (pt_cmpR op_notIn_seq (pv 7) (pv 4) (by rfl))))) (pss_cons (ps_expr (pe_bm PySem.F.plainAttrs_list PySem.F.slot_list_append PySem.F.type_list_append mt_append (pv 4) (pa_cons (pv 7) pa_nil)))
      (pss_one (ps_expr (pe_bm PySem.F.plainAttrs_list PySem.F.slot_list_append PySem.F.type_list_append mt_append (pv 6) (pa_cons (pv 7) pa_nil))))) pss_nil)))
      (pss_one (ps_set (i := 5) (sc_l_ahead_of).nd rfl (by first | exact Or.inl rfl | exact Or.inr rfl) (pv 6))))))
      (pss_one (ps_ret (pe_callTy call_tupleN (by rfl) T.A.n_tuple (by decide +kernel) (pa_cons (pe_callB (cr_sortIQ rfl) (by rfl) T.A.n_sorted (by decide +kernel) (pa_cons (pv 4) pa_nil)) pa_nil))))))
def t_l_is_walk_of (K : PySem.W.Frag) : TS := (tSeq (tIfS (tOr (tNot (tB (tCB (rIsi K) (tCons (tVar 1) (tCons (tC (.ty "tuple")) tNil))))) (tTest (tOp (rNeD K) (tLc (iSeq K (tVar 1)) (gName 2) (tOr (tB (tCB (rIsi K) (tCons (tVar 2) (tCons (tC (.ty "bool")) tNil)))) (tNot (tB (tCB (rIsi K) (tCons (tVar 2) (tCons (tC (.ty "int")) tNil)))))) (tC (.int 1)) [2]) (tLst tNil)))) (tRet (tC (.bl false))) tNext)
    (tRet (tOp (rEqD K) (tCB (rSortIQ K) (tCons (tVar 1) tNil)) (tLstRg (tRg1 (tVar 0))))))
theorem dv_l_is_walk_of {P : Program} {w : World} {K : PySem.W.Frag} {mg : Str → Option Value} {base : Heap} {k : Nat} {cdv : Value} {A : Around} {outer : List Env} {s : Shared} {H : Hp} {E : XK} (T : Tx K mg)
    (hr : Room k (A.deeper (envOfC "_law_is_walk_of" (defScope s_l_is_walk_of) s.heap.objs.size T.l_is_walk_of.f cdv))) : PSs (cxOf CX0 P w K mg base N_l_is_walk_of "_law_is_walk_of" (defScope s_l_is_walk_of) T.l_is_walk_of.f cdv A outer s H E).nox (defBody s_l_is_walk_of) (t_l_is_walk_of K) :=
  (pss_cons (ps_if (PW.pt (pw_or (pt_not (pt_val (pe_callB call_isi (by rfl) T.A.n_isinstance (by decide +kernel) (pa_cons (pv 1) (pa_cons (pe_bltn (v := .ty "tuple") (by rfl) T.A.n_tuple boot_tuple rfl) pa_nil))))) (pw_or1 (pt_cmpR (op_neD hr.units) (pe_lc (own := [("_law_own", 2)]) (by rfl) (sc_l_is_walk_of).nd (pi_seq (pv 1)) (blkOk_by (by kernel_rfl)) (fun _ _ _ _ _ => (pg_name (i := 2) (sc_l_is_walk_of).nd rfl (by first | exact Or.inl rfl | exact Or.inr rfl))) (fun _ _ _ _ _ => (pts_one (PW.pt (pw_or (pt_val (pe_callB call_isi (by rfl) T.A.n_isinstance (by decide +kernel) (pa_cons (pv 2) (pa_cons (pe_bltn (v := .ty "bool") (by rfl) T.A.n_bool boot_bool rfl) pa_nil)))) (pw_or1 (pt_not (pt_val (pe_callB call_isi (by rfl) T.A.n_isinstance (by decide +kernel) (pa_cons (pv 2) (pa_cons (pe_bltn (v := .ty "int") (by rfl) T.A.n_int boot_int rfl) pa_nil)))))))))) (fun _ _ _ _ _ => pe_int)) (pe_lst pa_nil) (nomark _))))) (pss_one (ps_ret pe_bl)) pss_nil)
      (pss_one (ps_ret (pe_cmpR (op_eqD hr.units) (pe_callB (cr_sortIQ rfl) (by rfl) T.A.n_sorted (by decide +kernel) (pa_cons (pv 1) pa_nil)) (pe_listRg rfl (by rfl) T.A.n_list (prg_1 (by rfl) T.A.n_range (pv 0))) (nomark _)))))
def t_l_along (K : PySem.W.Frag) (sp_l_arrows : Sp) (sp_l_of : Sp) : TS := (tSeq (tAsg (tTup (tCons (tCall sp_l_arrows [] E0 (tCons (tVar 1) (tCons (tVar 2) tNil))) (tCons (tLstRg (tRg1 (tCB (rLenQ K) (tCons (tVar 2) tNil)))) (tCons (tTupN tNil) tNil)))) (gTup K 3 (gCons (gName 3) (gCons (gName 4) (gCons (gName 5) gNil)))))
    (tSeq (tWhile (tTest (tOp (rNeD K) (tVar 4) (tLst tNil))) (tSeq (tAsg (tLc (iSeq K (tVar 3)) (gTup K 2 (gCons (gName 8) (gCons (gName 9) gNil))) (tTest (tOp (rIn K false) (tVar 8) (tVar 4))) (tVar 9) [8, 9]) (gName 6))
    (tSeq (tAsg (tCall sp_l_of [] E0 (tCons (tVar 0) (tCons (tLc (iSeq K (tVar 4)) (gName 10) (tTest (tOp (rIn K true) (tVar 10) (tVar 6))) (tVar 10) [10]) tNil))) (gName 7))
    (tAsg (tTup (tCons (tLc (iSeq K (tVar 4)) (gName 10) (tTest (tOp (rNeD K) (tVar 10) (tVar 7))) (tVar 10) [10]) (tCons (tOp (rCatN K) (tVar 5) (tTupN (tCons (tVar 7) tNil))) tNil))) (gTup K 2 (gCons (gName 4) (gCons (gName 5) gNil)))))))
    (tRet (tVar 5))))
theorem dv_l_along {P : Program} {w : World} {K : PySem.W.Frag} {mg : Str → Option Value} {base : Heap} {k : Nat} {cdv : Value} {A : Around} {outer : List Env} {s : Shared} {H : Hp} {E : XK} (T : Tx K mg) {sp_l_arrows : Sp} (G_l_arrows : FnOk P w K mg base CX0 k T.l_arrows.f T.l_arrows.fd P_l_arrows sp_l_arrows) {sp_l_of : Sp} (G_l_of : FnOk P w K mg base CX0 k T.l_of.f T.l_of.fd P_l_of sp_l_of)
    (hr : Room k (A.deeper (envOfC "_law_along" (defScope s_l_along) s.heap.objs.size T.l_along.f cdv))) : PSs (cxOf CX0 P w K mg base N_l_along "_law_along" (defScope s_l_along) T.l_along.f cdv A outer s H E).nox (defBody s_l_along) (t_l_along K sp_l_arrows sp_l_of) :=
  (pss_cons (ps_asg (pe_tup (pa_cons (pe_call G_l_arrows hr (by rfl) T.l_arrows.g T.l_arrows.F.kp T.l_arrows.b .nil pass0 (pa_cons (pv 1) (pa_cons (pv 2) pa_nil))) (pa_cons (pe_listRg rfl (by rfl) T.A.n_list (prg_1 (by rfl) T.A.n_range (pe_callB call_len_seq (by rfl) T.A.n_len PySem.boot_len (pa_cons (pv 2) pa_nil)))) (pa_cons (pe_tupN pa_nil) pa_nil)))) (pg_tup rfl (pgs_cons (pg_name (i := 3) (sc_l_along).nd rfl (by first | exact Or.inl rfl | exact Or.inr rfl)) (pgs_cons (pg_name (i := 4) (sc_l_along).nd rfl (by first | exact Or.inl rfl | exact Or.inr rfl)) (pgs_cons (pg_name (i := 5) (sc_l_along).nd rfl (by first | exact Or.inl rfl | exact Or.inr rfl)) pgs_nil)))))
      (pss_cons (ps_while PassesOwn.never (pt_cmpR (op_neD hr.units) (pv 4) (pe_lst pa_nil) (nomark _)) (pss_cons (ps_set (i := 6) (sc_l_along).nd rfl (by first | exact Or.inl rfl | exact Or.inr rfl) (pe_lc (own := [("_law_one", 8), ("_law_two", 9)]) (by rfl) (sc_l_along).nd (pi_seq (pv 3)) (blkOk_by (by kernel_rfl)) (fun _ _ _ _ _ => (pg_tup rfl (pgs_cons (pg_name (i := 8) (sc_l_along).nd rfl (by first | exact Or.inl rfl | exact Or.inr rfl)) (pgs_cons (pg_name (i := 9) (sc_l_along).nd rfl (by first | exact Or.inl rfl | exact Or.inr rfl)) pgs_nil)))) (fun _ _ _ _ _ => (pts_one (pt_cmpR op_in_seq (pv 8) (pv 4) (by rfl)))) (fun _ _ _ _ _ => (pv 9))))
      (pss_cons (ps_set (i := 7) (sc_l_along).nd rfl (by first | exact Or.inl rfl | exact Or.inr rfl) (pe_call G_l_of hr (by rfl) T.l_of.g T.l_of.F.kp T.l_of.b .nil pass0 (pa_cons (pv 0) (pa_cons (pe_lc (own := [("_law_own", 10)]) (by rfl) (sc_l_along).nd (pi_seq (pv 4)) (blkOk_by (by kernel_rfl)) (fun _ _ _ _ _ => (pg_name (i := 10) (sc_l_along).nd rfl (by first | exact Or.inl rfl | exact Or.inr rfl))) (fun _ _ _ _ _ => (pts_one (pt_cmpR op_notIn_seq (pv 10) (pv 6) (by rfl)))) (fun _ _ _ _ _ => (pv 10))) pa_nil))))
      (pss_one (ps_asg (pe_tup (pa_cons (pe_lc (own := [("_law_own", 10)]) (by rfl) (sc_l_along).nd (pi_seq (pv 4)) (blkOk_by (by kernel_rfl)) (fun _ _ _ _ _ => (pg_name (i := 10) (sc_l_along).nd rfl (by first | exact Or.inl rfl | exact Or.inr rfl))) (fun _ _ _ _ _ => (pts_one (pt_cmpR (op_neD hr.units) (pv 10) (pv 7) (nomark _)))) (fun _ _ _ _ _ => (pv 10))) (pa_cons (pe_op op_catN (pv 5) (pe_tupN (pa_cons (pv 7) pa_nil))) pa_nil))) (pg_tup rfl (pgs_cons (pg_name (i := 4) (sc_l_along).nd rfl (by first | exact Or.inl rfl | exact Or.inr rfl)) (pgs_cons (pg_name (i := 5) (sc_l_along).nd rfl (by first | exact Or.inl rfl | exact Or.inr rfl)) pgs_nil))))))))
      (pss_one (ps_ret (pv 5)))))
def t_l_busy_net (K : PySem.W.Frag) (sp_l_net : Sp) : TS := (tSeq (tAsg (tCall sp_l_net [] E0 (tCons (tVar 0) (tCons (tVar 1) (tCons (tVar 2) tNil)))) (gName 3))
    (tSeq (tFor (iRng1 (tCons (tC (.int 3)) tNil)) (gName 4) (tIfS (tTest (tOp rLtI (tCB (rLenQ K) (tCons (tOp (rIx K) (tVar 3) (tC (.int 1))) tNil)) (tC (.int 2)))) (tAsg (tCall sp_l_net [] E0 (tCons (tVar 0) (tCons (tVar 1) (tCons (tVar 2) tNil)))) (gName 3)) tNext))
    (tRet (tVar 3))))
theorem dv_l_busy_net {P : Program} {w : World} {K : PySem.W.Frag} {mg : Str → Option Value} {base : Heap} {k : Nat} {cdv : Value} {A : Around} {outer : List Env} {s : Shared} {H : Hp} {E : XK} (T : Tx K mg) {sp_l_net : Sp} (G_l_net : FnOk P w K mg base CX0 k T.l_net.f T.l_net.fd P_l_net sp_l_net)
    (hr : Room k (A.deeper (envOfC "_law_busy_net" (defScope s_l_busy_net) s.heap.objs.size T.l_busy_net.f cdv))) : PSs (cxOf CX0 P w K mg base N_l_busy_net "_law_busy_net" (defScope s_l_busy_net) T.l_busy_net.f cdv A outer s H E).nox (defBody s_l_busy_net) (t_l_busy_net K sp_l_net) :=
  (pss_cons (ps_set (i := 3) (sc_l_busy_net).nd rfl (by first | exact Or.inl rfl | exact Or.inr rfl) (pe_call G_l_net hr (by rfl) T.l_net.g T.l_net.F.kp T.l_net.b .nil pass0 (pa_cons (pv 0) (pa_cons (pv 1) (pa_cons (pv 2) pa_nil)))))
      (pss_cons (ps_for PassesOwn.never rfl (pi_range1 (by rfl) T.A.n_range (pa_cons pe_int pa_nil)) (pg_name (i := 4) (sc_l_busy_net).nd rfl (by first | exact Or.inl rfl | exact Or.inr rfl)) (pss_one (ps_if (pt_cmpR op_lt (pe_callB call_len_seq (by rfl) T.A.n_len PySem.boot_len (pa_cons (pe_ix ix_seq (pv 3) pe_int (fun _ _ => rfl)) pa_nil)) pe_int (nomark _)) (pss_one (ps_set (i := 3) (sc_l_busy_net).nd rfl (by first | exact Or.inl rfl | exact Or.inr rfl) (pe_call G_l_net hr (by rfl) T.l_net.g T.l_net.F.kp T.l_net.b .nil pass0 (pa_cons (pv 0) (pa_cons (pv 1) (pa_cons (pv 2) pa_nil)))))) pss_nil)))
      (pss_one (ps_ret (pv 3)))))
def t_law (K : PySem.W.Frag) (sp_l_by_hand_right : Sp) (sp_l_box : Sp) (sp_l_cells : Sp) (sp_l_busy_net : Sp) (sp_l_walk : Sp) (sp_l_run : Sp) (sp_order_of : Sp) (sp_l_lists : Sp) (sp_l_same : Sp) (sp_is_outcome : Sp) (sp_l_is_walk_of : Sp) (sp_l_along : Sp) (sp_is_order_of : Sp) (sp_l_take : Sp) (sp_l_ahead_of : Sp) (sp_behind_whom : Sp) : TS := (tSeq (tIfS (tNot (tB (tCall sp_l_by_hand_right [] E0 tNil))) (tRet (tC (.bl false))) tNext)
    (tSeq (tAsg (tCall sp_l_box [] E0 (tCons (tCall sp_l_cells [] E0 (tCons (tVar 0) (tCons (tC (.int 1)) tNil))) (tCons (tC (.int 0)) tNil))) (gName 1))
    (tSeq (tAsg (tCall sp_l_busy_net [] E0 (tCons (tVar 1) (tCons (tC (.int 12)) (tCons (tC (.int 12)) tNil)))) (gName 2))
    (tSeq (tAsg (tCB (rLenQ K) (tCons (tOp (rIx K) (tVar 2) (tC (.int 1))) tNil)) (gName 3))
    (tSeq (tFor (iRng1 (tCons (tC (.int 2)) tNil)) (gName 4) (tSeq (tAsg (tCall sp_l_walk [] E0 (tCons (tVar 1) (tCons (tVar 3) tNil))) (gName 5))
    (tSeq (tAsg (tCall sp_l_run [] E0 (tCons (tVar 2) (tCons (tVar 5) tNil))) (gName 6))
    (tSeq (tAsg (tCall sp_order_of [] E0 (tCons (tCall sp_l_lists [] E0 (tCons (tVar 2) tNil)) (tCons (tCB (rListQ K) (tCons (tVar 6) tNil)) tNil))) (gName 7))
    (tSeq (tIfS (tOr (tNot (tB (tCall sp_l_same [] E0 (tCons (tCall sp_is_outcome [] E0 (tCons (tVar 2) (tCons (tVar 6) tNil))) (tCons (tC (.bl true)) tNil))))) (tOr (tNot (tB (tCall sp_l_is_walk_of [] E0 (tCons (tVar 3) (tCons (tVar 7) tNil))))) (tTest (tOp (rNeD K) (tCall sp_l_run [] E0 (tCons (tVar 2) (tCons (tVar 7) tNil))) (tVar 6))))) (tRet (tC (.bl false))) tNext)
    (tSeq (tAsg (tCall sp_l_along [] E0 (tCons (tVar 1) (tCons (tVar 2) (tCons (tVar 6) tNil)))) (gName 8))
    (tSeq (tAsg (tLst (tCons (tVar 5) (tCons (tVar 8) (tCons (tRevN K (tVar 5)) (tCons (tCall sp_l_walk [] E0 (tCons (tVar 1) (tCons (tVar 3) tNil))) (tCons (tOp (rCatN K) (tSl (rSlN K) (tVar 5) (tPart (tC (.int 1))) tNoPart) (tSl (rSlN K) (tVar 5) tNoPart (tPart (tC (.int 1))))) tNil)))))) (gName 9))
    (tSeq (tIfS (tTest (tOp (rNeD K) (tCall sp_l_run [] E0 (tCons (tVar 2) (tCons (tVar 8) tNil))) (tVar 6))) (tRet (tC (.bl false))) tNext)
    (tSeq (tIfS (tNot (tB (tCall sp_l_same [] E0 (tCons (tLc (iSeq K (tVar 9)) (gName 13) tYes (tCall sp_is_order_of [] E0 (tCons (tVar 2) (tCons (tVar 6) (tCons (tVar 13) tNil)))) [13]) (tCons (tLc (iSeq K (tVar 9)) (gName 13) tYes (tOp (rEqD K) (tCall sp_l_run [] E0 (tCons (tVar 2) (tCons (tVar 13) tNil))) (tVar 6)) [13]) tNil))))) (tRet (tC (.bl false))) tNext)
    (tIfS (tTest (tOp rGtI (tVar 3) (tC (.int 0)))) (tSeq (tAsg (tCall sp_l_take [] E0 (tCons (tVar 1) (tCons (tVar 3) tNil))) (gName 10))
    (tSeq (tAsg (tCall sp_l_ahead_of [] E0 (tCons (tVar 2) (tCons (tVar 6) (tCons (tVar 10) tNil)))) (gName 11))
    (tSeq (tAsg (tLc (iSeq K (tVar 11)) (gName 13) (tTest (tOp rGtI (tIdx (tVar 5) (tVar 13)) (tIdx (tVar 5) (tVar 10)))) (tVar 13) [13]) (gName 12))
    (tIfS (tOr (tNot (tB (tCall sp_l_same [] E0 (tCons (tCall sp_behind_whom [] E0 (tCons (tVar 2) (tCons (tCall sp_l_lists [] E0 (tCons (tVar 6) tNil)) (tCons (tVar 10) tNil)))) (tCons (tVar 11) tNil))))) (tTest (tOp (rNeD K) (tVar 12) (tLst tNil)))) (tRet (tC (.bl false))) tNext)))) tNext))))))))))
    (tRet (tC (.bl true))))))))
theorem dv_law {P : Program} {w : World} {K : PySem.W.Frag} {mg : Str → Option Value} {base : Heap} {k : Nat} {cdv : Value} {A : Around} {outer : List Env} {s : Shared} {H : Hp} {E : XK} (T : Tx K mg) {sp_l_by_hand_right : Sp} (G_l_by_hand_right : FnOk P w K mg base CX0 k T.l_by_hand_right.f T.l_by_hand_right.fd P_l_by_hand_right sp_l_by_hand_right) {sp_l_box : Sp} (G_l_box : FnOk P w K mg base CX0 k T.l_box.f T.l_box.fd P_l_box sp_l_box) {sp_l_cells : Sp} (G_l_cells : FnOk P w K mg base CX0 k T.l_cells.f T.l_cells.fd P_l_cells sp_l_cells) {sp_l_busy_net : Sp} (G_l_busy_net : FnOk P w K mg base CX0 k T.l_busy_net.f T.l_busy_net.fd P_l_busy_net sp_l_busy_net) {sp_l_walk : Sp} (G_l_walk : FnOk P w K mg base CX0 k T.l_walk.f T.l_walk.fd P_l_walk sp_l_walk) {sp_l_run : Sp} (G_l_run : FnOk P w K mg base CX0 k T.l_run.f T.l_run.fd P_l_run sp_l_run) {sp_order_of : Sp} (G_order_of : FnOk P w K mg base CX0 k T.order_of.f T.order_of.fd P_order_of sp_order_of) {sp_l_lists : Sp} (G_l_lists : FnOk P w K mg base CX0 k T.l_lists.f T.l_lists.fd P_l_lists sp_l_lists) {sp_l_same : Sp} (G_l_same : FnOk P w K mg base CX0 k T.l_same.f T.l_same.fd P_l_same sp_l_same) {sp_is_outcome : Sp} (G_is_outcome : FnOk P w K mg base CX0 k T.is_outcome.f T.is_outcome.fd P_is_outcome sp_is_outcome) {sp_l_is_walk_of : Sp} (G_l_is_walk_of : FnOk P w K mg base CX0 k T.l_is_walk_of.f T.l_is_walk_of.fd P_l_is_walk_of sp_l_is_walk_of) {sp_l_along : Sp} (G_l_along : FnOk P w K mg base CX0 k T.l_along.f T.l_along.fd P_l_along sp_l_along) {sp_is_order_of : Sp} (G_is_order_of : FnOk P w K mg base CX0 k T.is_order_of.f T.is_order_of.fd P_is_order_of sp_is_order_of) {sp_l_take : Sp} (G_l_take : FnOk P w K mg base CX0 k T.l_take.f T.l_take.fd P_l_take sp_l_take) {sp_l_ahead_of : Sp} (G_l_ahead_of : FnOk P w K mg base CX0 k T.l_ahead_of.f T.l_ahead_of.fd P_l_ahead_of sp_l_ahead_of) {sp_behind_whom : Sp} (G_behind_whom : FnOk P w K mg base (L2.CX P w) k T.behind_whom.f T.behind_whom.fd P_behind_whom sp_behind_whom)
    (hr : Room k (A.deeper (envOfC "law" (defScope s_law) s.heap.objs.size T.law.f cdv))) : PSs (cxOf CX0 P w K mg base N_law "law" (defScope s_law) T.law.f cdv A outer s H E).nox (defBody s_law) (t_law K sp_l_by_hand_right sp_l_box sp_l_cells sp_l_busy_net sp_l_walk sp_l_run sp_order_of sp_l_lists sp_l_same sp_is_outcome sp_l_is_walk_of sp_l_along sp_is_order_of sp_l_take sp_l_ahead_of sp_behind_whom) :=
  (pss_cons (ps_if (pt_not (pt_val (pe_call0 G_l_by_hand_right hr (by rfl) T.l_by_hand_right.g T.l_by_hand_right.F.kp T.l_by_hand_right.b .nil pass0))) (pss_one (ps_ret pe_bl)) pss_nil)
      (pss_cons (ps_set (i := 1) (sc_law).nd rfl (by first | exact Or.inl rfl | exact Or.inr rfl) (pe_call G_l_box hr (by rfl) T.l_box.g T.l_box.F.kp T.l_box.b .nil pass0 (pa_cons (pe_call G_l_cells hr (by rfl) T.l_cells.g T.l_cells.F.kp T.l_cells.b .nil pass0 (pa_cons (pv 0) (pa_cons pe_int pa_nil))) (pa_cons pe_int pa_nil))))
      (pss_cons (ps_set (i := 2) (sc_law).nd rfl (by first | exact Or.inl rfl | exact Or.inr rfl) (pe_call G_l_busy_net hr (by rfl) T.l_busy_net.g T.l_busy_net.F.kp T.l_busy_net.b .nil pass0 (pa_cons (pv 1) (pa_cons pe_int (pa_cons pe_int pa_nil)))))
      (pss_cons (ps_set (i := 3) (sc_law).nd rfl (by first | exact Or.inl rfl | exact Or.inr rfl) (pe_callB call_len_seq (by rfl) T.A.n_len PySem.boot_len (pa_cons (pe_ix ix_seq (pv 2) pe_int (fun _ _ => rfl)) pa_nil)))
      (pss_cons (ps_for PassesOwn.never rfl (pi_range1 (by rfl) T.A.n_range (pa_cons pe_int pa_nil)) (pg_name (i := 4) (sc_law).nd rfl (by first | exact Or.inl rfl | exact Or.inr rfl)) (pss_cons (ps_set (i := 5) (sc_law).nd rfl (by first | exact Or.inl rfl | exact Or.inr rfl) (pe_call G_l_walk hr (by rfl) T.l_walk.g T.l_walk.F.kp T.l_walk.b .nil pass0 (pa_cons (pv 1) (pa_cons (pv 3) pa_nil))))
      (pss_cons (ps_set (i := 6) (sc_law).nd rfl (by first | exact Or.inl rfl | exact Or.inr rfl) (pe_call G_l_run hr (by rfl) T.l_run.g T.l_run.F.kp T.l_run.b .nil pass0 (pa_cons (pv 2) (pa_cons (pv 5) pa_nil))))
      (pss_cons (ps_set (i := 7) (sc_law).nd rfl (by first | exact Or.inl rfl | exact Or.inr rfl) (pe_call G_order_of hr (by rfl) T.order_of.g T.order_of.F.kp T.order_of.b .nil pass0 (pa_cons (pe_call G_l_lists hr (by rfl) T.l_lists.g T.l_lists.F.kp T.l_lists.b .nil pass0 (pa_cons (pv 2) pa_nil)) (pa_cons (pe_callTy call_list_of (by rfl) T.A.n_list (by decide +kernel) (pa_cons (pv 6) pa_nil)) pa_nil))))
      (pss_cons (ps_if (PW.pt (pw_or (pt_not (pt_val (pe_call G_l_same hr (by rfl) T.l_same.g T.l_same.F.kp T.l_same.b .nil pass0 (pa_cons (pe_call G_is_outcome hr (by rfl) T.is_outcome.g T.is_outcome.F.kp T.is_outcome.b .nil pass0 (pa_cons (pv 2) (pa_cons (pv 6) pa_nil))) (pa_cons pe_bl pa_nil))))) (pw_or (pt_not (pt_val (pe_call G_l_is_walk_of hr (by rfl) T.l_is_walk_of.g T.l_is_walk_of.F.kp T.l_is_walk_of.b .nil pass0 (pa_cons (pv 3) (pa_cons (pv 7) pa_nil))))) (pw_or1 (pt_cmpR (op_neD hr.units) (pe_call G_l_run hr (by rfl) T.l_run.g T.l_run.F.kp T.l_run.b .nil pass0 (pa_cons (pv 2) (pa_cons (pv 7) pa_nil))) (pv 6) (nomark _)))))) (pss_one (ps_ret pe_bl)) pss_nil)
      (pss_cons (ps_set (i := 8) (sc_law).nd rfl (by first | exact Or.inl rfl | exact Or.inr rfl) (pe_call G_l_along hr (by rfl) T.l_along.g T.l_along.F.kp T.l_along.b .nil pass0 (pa_cons (pv 1) (pa_cons (pv 2) (pa_cons (pv 6) pa_nil)))))
      (pss_cons (ps_set (i := 9) (sc_law).nd rfl (by first | exact Or.inl rfl | exact Or.inr rfl) (pe_lst (pa_cons (pv 5) (pa_cons (pv 8) (pa_cons (pe_revN (pv 5)) (pa_cons (pe_call G_l_walk hr (by rfl) T.l_walk.g T.l_walk.F.kp T.l_walk.b .nil pass0 (pa_cons (pv 1) (pa_cons (pv 3) pa_nil))) (pa_cons (pe_op op_catN (pe_slice sl_tupN (pv 5) (po_some pe_int) po_none) (pe_slice sl_tupN (pv 5) po_none (po_some pe_int))) pa_nil)))))))
      (pss_cons (ps_if (pt_cmpR (op_neD hr.units) (pe_call G_l_run hr (by rfl) T.l_run.g T.l_run.F.kp T.l_run.b .nil pass0 (pa_cons (pv 2) (pa_cons (pv 8) pa_nil))) (pv 6) (nomark _)) (pss_one (ps_ret pe_bl)) pss_nil)
      (pss_cons (ps_if (pt_not (pt_val (pe_call G_l_same hr (by rfl) T.l_same.g T.l_same.F.kp T.l_same.b .nil pass0 (pa_cons (pe_lc (own := [("_law_own", 13)]) (by rfl) (sc_law).nd (pi_seq (pv 9)) (blkOk_by (by kernel_rfl)) (fun _ _ _ _ _ => (pg_name (i := 13) (sc_law).nd rfl (by first | exact Or.inl rfl | exact Or.inr rfl))) (fun _ _ _ _ _ => pts_nil) (fun _ _ _ _ _ => (pe_call G_is_order_of hr (by rfl) T.is_order_of.g T.is_order_of.F.kp T.is_order_of.b .nil pass0 (pa_cons (pv 2) (pa_cons (pv 6) (pa_cons (pv 13) pa_nil)))))) (pa_cons (pe_lc (own := [("_law_own", 13)]) (by rfl) (sc_law).nd (pi_seq (pv 9)) (blkOk_by (by kernel_rfl)) (fun _ _ _ _ _ => (pg_name (i := 13) (sc_law).nd rfl (by first | exact Or.inl rfl | exact Or.inr rfl))) (fun _ _ _ _ _ => pts_nil) (fun _ _ _ _ _ => (pe_cmpR (op_eqD hr.units) (pe_call G_l_run hr (by rfl) T.l_run.g T.l_run.F.kp T.l_run.b .nil pass0 (pa_cons (pv 2) (pa_cons (pv 13) pa_nil))) (pv 6) (nomark _)))) pa_nil))))) (pss_one (ps_ret pe_bl)) pss_nil)
      (pss_one (ps_if (pt_cmpR op_gt (pv 3) pe_int (nomark _)) (pss_cons (ps_set (i := 10) (sc_law).nd rfl (by first | exact Or.inl rfl | exact Or.inr rfl) (pe_call G_l_take hr (by rfl) T.l_take.g T.l_take.F.kp T.l_take.b .nil pass0 (pa_cons (pv 1) (pa_cons (pv 3) pa_nil))))
      (pss_cons (ps_set (i := 11) (sc_law).nd rfl (by first | exact Or.inl rfl | exact Or.inr rfl) (pe_call G_l_ahead_of hr (by rfl) T.l_ahead_of.g T.l_ahead_of.F.kp T.l_ahead_of.b .nil pass0 (pa_cons (pv 2) (pa_cons (pv 6) (pa_cons (pv 10) pa_nil)))))
      (pss_cons (ps_setLc (i := 12) (own := [("_law_own", 13)]) (by rfl) (sc_law).nd rfl rfl (sw_true rfl rfl rfl (by decide +kernel)) (pi_seq (pv 11)) (blkOk_by (by kernel_rfl)) (fun _ _ _ _ _ => (pg_name (i := 13) (sc_law).nd rfl (by first | exact Or.inl rfl | exact Or.inr rfl))) (fun _ _ _ _ _ => (pts_one (pt_cmpR op_gt (pe_idx (pv 5) (pv 13)) (pe_idx (pv 5) (pv 10)) (nomark _)))) (fun _ _ _ _ _ => (pv 13)))
      (pss_one (ps_if (PW.pt (pw_or (pt_not (pt_val (pe_call G_l_same hr (by rfl) T.l_same.g T.l_same.F.kp T.l_same.b .nil pass0 (pa_cons (pe_call G_behind_whom hr (by rfl) T.behind_whom.g T.behind_whom.F.kp T.behind_whom.b .nil passL (pa_cons (pv 2) (pa_cons (pe_call G_l_lists hr (by rfl) T.l_lists.g T.l_lists.F.kp T.l_lists.b .nil pass0 (pa_cons (pv 6) pa_nil)) (pa_cons (pv 10) pa_nil)))) (pa_cons (pv 11) pa_nil))))) (pw_or1 (pt_cmpR (op_neD hr.units) (pv 12) (pe_lst pa_nil) (nomark _))))) (pss_one (ps_ret pe_bl)) pss_nil))))) pss_nil)))))))))))
      (pss_one (ps_ret pe_bl)))))))
end Lw
set_option Elab.async false
set_option linter.all false
set_option maxRecDepth 100000
set_option maxHeartbeats 1000000
namespace Lw
open PySem PySem.Spec PyProof.Rows L2
section
variable {P : Program} {w : World} {K : PySem.W.Frag} {mg : Str → Option Value} {base : Heap}
/-! ### is_number, is_from, is_within, is_long -/
def intB : D → Bool
  | .int _ => true
  | _ => false
def kI (x : D) : Bool := match x with
  | .int _ => true
  | .bool _ => true
  | _ => false
def kB (x : D) : Bool := match x with
  | .bool _ => true
  | _ => false
def kT (x : D) : Bool := match x with
  | .tuple _ => true
  | _ => false
def kL (x : D) : Bool := match x with
  | .list _ => true
  | _ => false
def kS (x : D) : Bool := match x with
  | .str _ => true
  | _ => false
theorem kit_int {x : D} (h : notP x = true) : kitB (tyD x) "int" = some (kI x) := by cases x <;> first | rfl | decide +kernel | cases h
theorem kit_bool {x : D} (h : notP x = true) : kitB (tyD x) "bool" = some (kB x) := by cases x <;> first | rfl | decide +kernel | cases h
theorem kit_tuple {x : D} (h : notP x = true) : kitB (tyD x) "tuple" = some (kT x) := by cases x <;> first | rfl | decide +kernel | cases h
theorem kit_list {x : D} (h : notP x = true) : kitB (tyD x) "list" = some (kL x) := by cases x <;> first | rfl | decide +kernel | cases h
theorem kit_lt {x : D} (h : notP x = true) : kitB2 (tyD x) "list" "tuple" = some (kL x || kT x) := by cases x <;> first | rfl | decide +kernel | cases h
theorem kit_bs {x : D} (h : notP x = true) : kitB2 (tyD x) "bool" "str" = some (kB x || kS x) := by cases x <;> first | rfl | decide +kernel | cases h
theorem kI_kB (x : D) : (kI x && !kB x) = intB x := by cases x <;> rfl
def sp_is_number : Sp := spI (fun x : D => notP x = true) (fun x => [x]) fun x r => r = .bool (intB x)
theorem run_is_number (x : D) (h : notP x = true) : RunS (t_is_number K) (startR 1 [x]) { nx := fun _ => PyData.none = .bool (intB x), rt := fun _ r => r = .bool (intB x) } :=
  r_ret (e_and2 (e_isi (e_var rfl).b (kit_int h) h) fun _ => e_not (e_isi (e_var rfl).b (kit_bool h) h)) (by rw [kI_kB])
theorem ok_is_number (T : Tx K mg) : FnOk P w K mg base CX0 1 T.is_number.f T.is_number.fd P_is_number sp_is_number :=
  T.is_number.F.ok (k := 0) sc_is_number (len_I fun _ => rfl) fun cdv A outer s H vs Q E hr h => ⟨_, dv_is_number T hr, fn_I (N := N_is_number) run_is_number vs H Q E h⟩
/-- a call of it -/
theorem e_is_number {ρ : Rho} {te : TE} {x : D} (h : EvE te ρ x) (hx : notP x = true) {E : XK} : EvE (tCall sp_is_number [] E (tCons te tNil)) ρ (.bool (intB x)) := e_call x h.one hx fun r e => e
def fromB (x : D) (a : Int) : Bool := match x with
  | .int i => decide (a ≤ i)
  | _ => false
def sp_is_from : Sp := spI (fun p : D × Int => notP p.1 = true) (fun p => [p.1, .int p.2]) fun p r => r = .bool (fromB p.1 p.2)
theorem run_is_from (p : D × Int) (h : notP p.1 = true) : RunS (t_is_from K sp_is_number) (startR 2 [p.1, .int p.2]) { nx := fun _ => PyData.none = .bool (fromB p.1 p.2), rt := fun _ r => r = .bool (fromB p.1 p.2) } := by
  obtain ⟨x, a⟩ := p
  refine r_ret (x := .bool (fromB x a)) (e_and (e_is_number (e_var (x := x) rfl) h) (fun e => ?_) fun e => ?_) rfl
  · cases x with
    | int i => exact e_op (e_var (x := .int i) rfl).b (e_var (x := .int a) rfl).b o_ge
    | _ => cases e
  · cases x with
    | int i => cases e
    | _ => rfl
theorem ok_is_from (T : Tx K mg) : FnOk P w K mg base CX0 2 T.is_from.f T.is_from.fd P_is_from sp_is_from :=
  T.is_from.F.ok (k := 1) sc_is_from (len_I fun _ => rfl) fun cdv A outer s H vs Q E hr h => ⟨_, dv_is_from T (ok_is_number T) hr, fn_I (N := N_is_from) run_is_from vs H Q E h⟩
def withinB (x : D) (a b : Int) : Bool := match x with
  | .int i => decide (a ≤ i) && decide (i ≤ b)
  | _ => false
def sp_is_within : Sp := spI (fun p : D × Int × Int => notP p.1 = true) (fun p => [p.1, .int p.2.1, .int p.2.2]) fun p r => r = .bool (withinB p.1 p.2.1 p.2.2)
theorem run_is_within (p : D × Int × Int) (h : notP p.1 = true) : RunS (t_is_within K sp_is_number) (startR 3 [p.1, .int p.2.1, .int p.2.2]) { nx := fun _ => PyData.none = .bool (withinB p.1 p.2.1 p.2.2), rt := fun _ r => r = .bool (withinB p.1 p.2.1 p.2.2) } := by
  obtain ⟨x, a, b⟩ := p
  refine r_ret (x := .bool (withinB x a b)) (e_and (e_is_number (e_var (x := x) rfl) h) (fun e => ?_) fun e => ?_) rfl
  · cases x with
    | int i => exact e_chain (e_var (x := .int a) rfl).b (e_var (x := .int i) rfl).b (e_var (x := .int b) rfl).b o_le fun _ => o_le
    | _ => cases e
  · cases x with
    | int i => cases e
    | _ => rfl
theorem ok_is_within (T : Tx K mg) : FnOk P w K mg base CX0 2 T.is_within.f T.is_within.fd P_is_within sp_is_within :=
  T.is_within.F.ok (k := 1) sc_is_within (len_I fun _ => rfl) fun cdv A outer s H vs Q E hr h => ⟨_, dv_is_within T (ok_is_number T) hr, fn_I (N := N_is_within) run_is_within vs H Q E h⟩
theorem eqv_nat (a b : Nat) : PyData.eqv (natD a) (natD b) = decide (a = b) := by
  unfold natD
  rw [PyData.eqv]
  by_cases h : a = b
  · subst h; simp
  · have : ¬ ((a : Int) = (b : Int)) := by omega
    simp [h, this]
theorem okD_nat (a : Nat) : okD (natD a) = true := rfl
theorem o_eqN {a b : Nat} : OpD (rEqD K) (natD a) (natD b) (.bool (decide (a = b))) := by
  have := o_eq (K := K) (okD_nat a) (okD_nat b)
  rw [eqv_nat] at this
  exact this
theorem o_neN {a b : Nat} : OpD (rNeD K) (natD a) (natD b) (.bool (!decide (a = b))) := by
  have := o_ne (K := K) (okD_nat a) (okD_nat b)
  rw [eqv_nat] at this
  exact this
def longB (x : D) (n : Nat) : Bool := match x with
  | .tuple xs => decide (xs.length = n)
  | _ => false
def sp_is_long : Sp := spI (fun p : D × Nat => notP p.1 = true) (fun p => [p.1, natD p.2]) fun p r => r = .bool (longB p.1 p.2)
theorem run_is_long (p : D × Nat) (h : notP p.1 = true) : RunS (t_is_long K) (startR 2 [p.1, natD p.2]) { nx := fun _ => PyData.none = .bool (longB p.1 p.2), rt := fun _ r => r = .bool (longB p.1 p.2) } := by
  obtain ⟨x, n⟩ := p
  refine r_ret (x := .bool (longB x n)) (e_and (e_isi (e_var (x := x) rfl).b (kit_tuple h) h) (fun e => ?_) fun e => ?_) rfl
  · cases x with
    | tuple xs => exact e_op (e_cb (e_var (x := .tuple xs) rfl).b.one c_lenT).b (e_var (x := natD n) rfl).b o_eqN
    | _ => cases e
  · cases x with
    | tuple xs => cases e
    | _ => rfl
theorem ok_is_long (T : Tx K mg) : FnOk P w K mg base CX0 1 T.is_long.f T.is_long.fd P_is_long sp_is_long :=
  T.is_long.F.ok (k := 0) sc_is_long (len_I fun _ => rfl) fun cdv A outer s H vs Q E hr h => ⟨_, dv_is_long T hr, fn_I (N := N_is_long) run_is_long vs H Q E h⟩
/-! ### set_of -/
def asc (l : List Nat) : List Nat := (List.range (l.foldr max 0 + 1)).filter fun x => decide (x ∈ l)
theorem le_max : ∀ {l : List Nat} {x : Nat}, x ∈ l → x ≤ l.foldr max 0
  | a :: l, x, h => by
    rw [List.foldr_cons]
    rcases List.mem_cons.mp h with e | h
    · subst e; exact Nat.le_max_left _ _
    · exact Nat.le_trans (le_max h) (Nat.le_max_right _ _)
theorem asc_lt (l : List Nat) : (asc l).Pairwise (· < ·) := List.Pairwise.filter _ (range_lt _)
theorem asc_mem {l : List Nat} {x : Nat} : x ∈ asc l ↔ x ∈ l := by
  unfold asc
  rw [List.mem_filter, List.mem_range]
  exact ⟨fun h => of_decide_eq_true h.2, fun h => ⟨Nat.lt_succ_of_le (le_max h), decide_eq_true h⟩⟩
def sp_set_of : Sp := spI (fun l : List Nat => l.length < 64) (fun l => [natsL l]) fun l r => r = natsT (asc l)
theorem run_set_of (l : List Nat) (h : l.length < 64) : RunS (t_set_of K) (startR 1 [natsL l]) { nx := fun _ => PyData.none = natsT (asc l), rt := fun _ r => r = natsT (asc l) } :=
  r_ret (e_cb (f_sortSet (e_var (x := natsL l) rfl).b (.inl rfl) h (asc_lt l) fun x => asc_mem).b.one c_tupL) rfl
theorem ok_set_of (T : Tx K mg) : FnOk P w K mg base CX0 1 T.set_of.f T.set_of.fd P_set_of sp_set_of :=
  T.set_of.F.ok (k := 0) sc_set_of (len_I fun _ => rfl) fun cdv A outer s H vs Q E hr h => ⟨_, dv_set_of T hr, fn_I (N := N_set_of) run_set_of vs H Q E h⟩
/-! ### is_guest_of, is_web -/
def gOk (m : Nat) (g : Nat × Nat) : Prop := g.1 < m ∧ g.2 < m ∧ g.1 ≠ g.2
structure WebOk (m : Nat) (gs : List (Nat × Nat)) : Prop where
  pos : 1 ≤ m
  all : ∀ g, g ∈ gs → gOk m g
  few : gs.length ≤ 20
  low : m ≤ 1000
theorem all_true {α : Type} (f : α → Bool) (l : List α) (h : ∀ x, x ∈ l → f x = true) : (l.map f).all id = true := by
  rw [List.all_map, List.all_eq_true]
  exact fun x hx => h x hx
/-- all([.. for x in l]) -/
theorem e_allLc {ρ : Rho} {wi : TI} {g : TG} {te : TE} {vs : List Nat} {α : Type} (ys : List α) (enc : α → D) (f : α → Bool) (hs : Iter wi ρ (ys.map enc))
    (hb : ∀ y, y ∈ ys → BndC g vs ρ (enc y) fun ρ2 => EvE te ρ2 (.bool (f y))) (hl : ys.length ≤ 50000) : EvE (tCB (rAll K) (tCons (tLc wi g tYes te vs) tNil)) ρ (.bool (ys.all f)) := by
  have h1 := f_lc (te := te) (tt := tYes) ys enc (fun _ => true) (fun y => .bool (f y)) hs (fun y hy => fun σ H G k v r Q q => hb y hy σ H G k v r Q fun σ2 ρ2 e k2 p => q σ2 ρ2 e k2 ⟨t_yes, fun _ => p⟩) hl
  have e1 : (ys.filter fun _ => true) = ys := List.filter_eq_self.mpr fun _ _ => rfl
  have e2 : (ys.map fun y => PyData.bool (f y)) = (ys.map f).map .bool := by rw [List.map_map]; rfl
  rw [e1, e2] at h1
  have h2 := e_cb h1.b.one (c_all (K := K) (bs := ys.map f))
  have e3 : (ys.map f).all id = ys.all f := by rw [List.all_map]; rfl
  rw [e3] at h2
  exact h2
theorem e_anyLc {ρ : Rho} {wi : TI} {g : TG} {te : TE} {vs : List Nat} {α : Type} (ys : List α) (enc : α → D) (f : α → Bool) (hs : Iter wi ρ (ys.map enc))
    (hb : ∀ y, y ∈ ys → BndC g vs ρ (enc y) fun ρ2 => EvE te ρ2 (.bool (f y))) (hl : ys.length ≤ 50000) : EvE (tCB (rAny K) (tCons (tLc wi g tYes te vs) tNil)) ρ (.bool (ys.any f)) := by
  have h1 := f_lc (te := te) (tt := tYes) ys enc (fun _ => true) (fun y => .bool (f y)) hs (fun y hy => fun σ H G k v r Q q => hb y hy σ H G k v r Q fun σ2 ρ2 e k2 p => q σ2 ρ2 e k2 ⟨t_yes, fun _ => p⟩) hl
  have e1 : (ys.filter fun _ => true) = ys := List.filter_eq_self.mpr fun _ _ => rfl
  have e2 : (ys.map fun y => PyData.bool (f y)) = (ys.map f).map .bool := by rw [List.map_map]; rfl
  rw [e1, e2] at h1
  have h2 := e_cb h1.b.one (c_any (K := K) (bs := ys.map f))
  have e3 : (ys.map f).any id = ys.any f := by rw [List.any_map]; rfl
  rw [e3] at h2
  exact h2
/-- a comprehension without a test -/
theorem f_lc0 {ρ : Rho} {wi : TI} {g : TG} {te : TE} {vs : List Nat} {α : Type} (ys : List α) (enc : α → D) (f : α → D) (hs : Iter wi ρ (ys.map enc))
    (hb : ∀ y, y ∈ ys → BndC g vs ρ (enc y) fun ρ2 => EvE te ρ2 (f y)) (hl : ys.length ≤ 50000) : EvF (tLc wi g tYes te vs) ρ (mlist (ys.map f)) := by
  have h1 := f_lc (te := te) (tt := tYes) ys enc (fun _ => true) f hs (fun y hy => fun σ H G k v r Q q => hb y hy σ H G k v r Q fun σ2 ρ2 e k2 p => q σ2 ρ2 e k2 ⟨t_yes, fun _ => p⟩) hl
  have e1 : (ys.filter fun _ => true) = ys := List.filter_eq_self.mpr fun _ _ => rfl
  rw [e1] at h1
  exact h1
theorem e_is_within {ρ : Rho} {ta tb tc : TE} {x : D} {a b : Int} (h : EvE ta ρ x) (h1 : EvE tb ρ (.int a)) (h2 : EvE tc ρ (.int b)) (hx : notP x = true) {E : XK} : EvE (tCall sp_is_within [] E (tCons ta (tCons tb (tCons tc tNil)))) ρ (.bool (withinB x a b)) :=
  e_call (x, a, b) (s_cons h (s_cons h1 h2.one)) hx fun r e => e
theorem e_is_long {ρ : Rho} {ta tb : TE} {x : D} {n : Nat} (h : EvE ta ρ x) (h1 : EvE tb ρ (natD n)) (hx : notP x = true) {E : XK} : EvE (tCall sp_is_long [] E (tCons ta (tCons tb tNil))) ρ (.bool (longB x n)) :=
  e_call (x, n) (s_cons h h1.one) hx fun r e => e
/-- an item of a pair -/
theorem e_fst {ρ : Rho} {te : TE} {x y : D} (h : EvE te ρ (.tuple [x, y])) : EvE (tOp (rIx K) te (tC (.int 0))) ρ x := e_op h.b (e_int (i := 0)).b (o_ixT (i := 0) rfl)
theorem e_snd {ρ : Rho} {te : TE} {x y : D} (h : EvE te ρ (.tuple [x, y])) : EvE (tOp (rIx K) te (tC (.int 1))) ρ y := e_op h.b (e_int (i := 1)).b (o_ixT (i := 1) rfl)
def sp_is_guest_of : Sp := spI (fun p : Nat × Nat × Nat => gOk p.1 p.2 ∧ p.1 ≤ 1000) (fun p => [natD p.1, gD p.2]) fun p r => r = .bool true
theorem within_nat {n m : Nat} (h : n < m) : withinB (natD n) 0 ((m : Int) - 1) = true := by
  show (decide ((0 : Int) ≤ (n : Int)) && decide ((n : Int) ≤ (m : Int) - 1)) = true
  rw [decide_eq_true (by omega), decide_eq_true (by omega)]
  rfl
theorem run_is_guest_of (p : Nat × Nat × Nat) (h : gOk p.1 p.2 ∧ p.1 ≤ 1000) : RunS (t_is_guest_of K sp_is_long sp_is_within) (startR 3 [natD p.1, gD p.2]) { nx := fun _ => PyData.none = .bool true, rt := fun _ r => r = .bool true } := by
  obtain ⟨m, a, b⟩ := p
  obtain ⟨⟨h1, h2, h3⟩, h4⟩ := h
  have hv : ([natD a, natD b] : List D).all (fun d => withinB d 0 ((m : Int) - 1)) = true := by
    rw [List.all_cons, List.all_cons, within_nat h1, within_nat h2]
    rfl
  have e1 : EvE (tCall sp_is_long [] E0 (tCons (tVar 1) (tCons (tC (.int 2)) tNil))) (startR 3 [natD m, gD (a, b)]) (.bool true) := e_is_long (x := gD (a, b)) (n := 2) (e_var rfl) e_int rfl
  refine r_ret (x := .bool true) (e_and2 (b := true) e1 fun _ => e_and2 (a := true) (b := true) ?_ fun _ => ?_) rfl
  · have := e_allLc (K := K) (ρ := startR 3 [natD m, gD (a, b)]) (wi := iSeq K (tVar 1)) (g := gName 2) (vs := [2]) (te := tCall sp_is_within [] E0 (tCons (tVar 2) (tCons (tC (.int 0)) (tCons (tOp rSubI (tVar 0) (tC (.int 1))) tNil)))) [natD a, natD b] id (fun d => withinB d 0 ((m : Int) - 1))
      (i_seq (e_var (x := gD (a, b)) rfl) (.inr rfl)).i (fun y hy => bndc_name (by simp) (e_is_within (e_var (x := y) rfl) e_int (e_op (e_var (x := natD m) rfl).b e_int.b o_sub) ?_)) (by show 2 ≤ 50000; decide)
    · rw [hv] at this
      exact this
    · rcases List.mem_cons.mp hy with e | hy
      · subst e; rfl
      · rcases List.mem_cons.mp hy with e | hy
        · subst e; rfl
        · simp at hy
  · have := e_op (e_fst (K := K) (e_var (ρ := startR 3 [natD m, gD (a, b)]) (x := gD (a, b)) (i := 1) rfl)).b (e_snd (K := K) (e_var (ρ := startR 3 [natD m, gD (a, b)]) (x := gD (a, b)) (i := 1) rfl)).b (o_neN (K := K))
    rw [decide_eq_false h3] at this
    exact this
theorem ok_is_guest_of (T : Tx K mg) : FnOk P w K mg base CX0 3 T.is_guest_of.f T.is_guest_of.fd P_is_guest_of sp_is_guest_of :=
  T.is_guest_of.F.ok (k := 2) sc_is_guest_of (len_I fun _ => rfl) fun cdv A outer s H vs Q E hr h => ⟨_, dv_is_guest_of T ((ok_is_long T).mono (by decide)) (ok_is_within T) hr, fn_I (N := N_is_guest_of) run_is_guest_of vs H Q E h⟩
def sp_is_web : Sp := spI (fun p : Nat × List (Nat × Nat) => WebOk p.1 p.2) (fun p => [webD p.1 p.2]) fun p r => r = .bool true
theorem run_is_web (p : Nat × List (Nat × Nat)) (h : WebOk p.1 p.2) : RunS (t_is_web K sp_is_long sp_is_from sp_is_guest_of) (startR 2 [webD p.1 p.2]) { nx := fun _ => PyData.none = .bool true, rt := fun _ r => r = .bool true } := by
  obtain ⟨m, gs⟩ := p
  have hw : EvE (tVar 0) (startR 2 [webD m gs]) (webD m gs) := e_var rfl
  have e1 : EvE (tCall sp_is_long [] E0 (tCons (tVar 0) (tCons (tC (.int 2)) tNil))) (startR 2 [webD m gs]) (.bool true) := e_is_long (x := webD m gs) (n := 2) hw e_int rfl
  have e2 : EvE (tCall sp_is_from [] E0 (tCons (tOp (rIx K) (tVar 0) (tC (.int 0))) (tCons (tC (.int 1)) tNil))) (startR 2 [webD m gs]) (.bool true) := by
    refine e_call (z := .bool true) (natD m, 1) (s_cons (e_fst hw) e_int.one) rfl fun r e => ?_
    rw [e]
    show PyData.bool (decide ((1 : Int) ≤ (m : Int))) = .bool true
    rw [decide_eq_true (by have := h.pos; omega)]
  have e3 : EvE (tCB (rIsi K) (tCons (tOp (rIx K) (tVar 0) (tC (.int 1))) (tCons (tC (.ty "tuple")) tNil))) (startR 2 [webD m gs]) (.bool true) := e_isi (e_snd hw).b (kit_tuple (x := .tuple (gs.map gD)) rfl)
  refine r_seq (r_if (b := false) (t_or (a := false) (b := false) (t_not (a := true) (t_B e1)) fun _ => t_or (a := false) (b := false) (t_not (a := true) (t_B e2)) fun _ => t_not (a := true) (t_B e3)) (fun e => by cases e) fun _ => r_next ?_)
  refine r_ret (x := .bool true) ?_ rfl
  have := e_allLc (K := K) (ρ := startR 2 [webD m gs]) (wi := iSeq K (tOp (rIx K) (tVar 0) (tC (.int 1)))) (g := gName 1) (vs := [1]) (te := tCall sp_is_guest_of [] E0 (tCons (tOp (rIx K) (tVar 0) (tC (.int 0))) (tCons (tVar 1) tNil))) gs gD (fun _ => true)
    (i_seq (e_snd hw) (.inr rfl)).i (fun y hy => bndc_name (by simp) ?_) (Nat.le_trans h.few (by decide))
  · have ea : (gs.all fun _ => true) = true := by simp
    rw [ea] at this
    exact this
  · exact e_call (z := .bool true) (m, y) (s_cons (e_fst (e_var (x := webD m gs) rfl)) (e_var (x := gD y) rfl).one) ⟨h.all y hy, h.low⟩ fun r e => e
theorem ok_is_web (T : Tx K mg) : FnOk P w K mg base CX0 4 T.is_web.f T.is_web.fd P_is_web sp_is_web :=
  T.is_web.F.ok (k := 3) sc_is_web (len_I fun _ => rfl) fun cdv A outer s H vs Q E hr h => ⟨_, dv_is_web T ((ok_is_long T).mono (by decide)) ((ok_is_from T).mono (by decide)) (ok_is_guest_of T) hr, fn_I (N := N_is_web) run_is_web vs H Q E h⟩
end
end Lw
set_option Elab.async false
set_option linter.all false
set_option maxRecDepth 100000
set_option maxHeartbeats 1000000
namespace Lw
open PySem PySem.Spec PyProof.Rows L2
section
variable {P : Program} {w : World} {K : PySem.W.Frag} {mg : Str → Option Value} {base : Heap}
/-! ### data of some depth -/
def dep : Nat → D → Bool
  | 0, d => match d with
    | .list _ => false
    | .tuple _ => false
    | .dict _ => false
    | .str x => PyData.strOk x
    | _ => true
  | n + 1, d => match d with
    | .list xs => decide (xs.length ≤ 1000) && xs.all (dep n)
    | .tuple xs => decide (xs.length ≤ 1000) && xs.all (dep n)
    | .dict _ => false
    | .str x => PyData.strOk x
    | _ => true
def tupN : Nat → D → D
  | 0, d => d
  | n + 1, d => match d with
    | .list xs => .tuple (xs.map (tupN n))
    | .tuple xs => .tuple (xs.map (tupN n))
    | d => d
def lstN : Nat → D → D
  | 0, d => d
  | n + 1, d => match d with
    | .list xs => .list (xs.map (lstN n))
    | .tuple xs => .list (xs.map (lstN n))
    | d => d
theorem dep_notP : ∀ {n : Nat} {d : D}, dep n d = true → notP d = true
  | 0, d, h => by cases d <;> first | rfl | cases h
  | n + 1, d, h => by cases d <;> first | rfl | cases h
theorem dep_seq {n : Nat} {d : D} {xs : List D} (e : seqD xs d) (h : dep (n + 1) d = true) : xs.length ≤ 1000 ∧ ∀ x, x ∈ xs → dep n x = true := by
  rcases e with e | e
  · subst e
    have h : (decide (xs.length ≤ 1000) && xs.all (dep n)) = true := h
    rw [Bool.and_eq_true, List.all_eq_true] at h
    exact ⟨of_decide_eq_true h.1, h.2⟩
  · subst e
    have h : (decide (xs.length ≤ 1000) && xs.all (dep n)) = true := h
    rw [Bool.and_eq_true, List.all_eq_true] at h
    exact ⟨of_decide_eq_true h.1, h.2⟩
/-- a def without a promise -/
def spNo : Sp := fun _ _ _ _ => False
theorem ok_no {CX : CXT} {k : Nat} {f : Addr} {fd : FuncData} {ps : List Str} : FnOk P w K mg base CX k f fd ps spNo := ⟨fun _ _ _ _ h => h.elim, fun _ _ _ _ _ _ _ _ _ _ _ _ _ h => h.elim⟩
theorem e_isiLT {ρ : Rho} {te : TE} {x : D} (h : EvE te ρ x) (hx : notP x = true) : EvT (tB (tCB (rIsiT K) (tCons te (tCons (tTup (tCons (tC (.ty "list")) (tCons (tC (.ty "tuple")) tNil))) tNil)))) ρ (kL x || kT x) := t_B (e_isi2 h.b (kit_lt hx) hx)
/-! ### tupled -/
def sp_tupled (n : Nat) : Sp := spI (fun x : D => dep n x = true) (fun x => [x]) fun x r => r = tupN n x
theorem run_tupled0 (x : D) (h : dep 0 x = true) : RunS (t_tupled K spNo) (startR 2 [x]) { nx := fun _ => PyData.none = tupN 0 x, rt := fun _ r => r = tupN 0 x } := by
  refine r_ret (x := x) (e_if (b := false) ((e_isiLT (e_var rfl) (dep_notP h)).is ?_) (fun e => by cases e) fun _ => e_var rfl) rfl
  cases x <;> first | rfl | cases h
theorem run_tupled (n : Nat) (x : D) (h : dep (n + 1) x = true) : RunS (t_tupled K (sp_tupled n)) (startR 2 [x]) { nx := fun _ => PyData.none = tupN (n + 1) x, rt := fun _ r => r = tupN (n + 1) x } := by
  have seq : ∀ xs : List D, seqD xs x → tupN (n + 1) x = .tuple (xs.map (tupN n)) → EvE (tCB (rTupN K) (tCons (tLc (iSeq K (tVar 0)) (gName 1) tYes (tCall (sp_tupled n) [] E0 (tCons (tVar 1) tNil)) [1]) tNil)) (startR 2 [x]) (tupN (n + 1) x) := fun xs e et => by
    obtain ⟨h1, h2⟩ := dep_seq e h
    rw [et]
    have hi : Iter (iSeq K (tVar 0)) (startR 2 [x]) (xs.map id) := by
      rw [List.map_id]
      exact (i_seq (e_var rfl) e).i
    exact e_cb (f_lc0 xs id (tupN n) hi (fun y hy => bndc_name (by simp) (e_call (i := y) (e_var rfl).one (h2 y hy) fun r e => e)) (by omega)).b.one c_tupL
  refine r_ret (x := tupN (n + 1) x) (e_if (e_isiLT (e_var rfl) (dep_notP h)) (fun e => ?_) fun e => ?_) rfl
  · cases x with
    | list xs => exact seq xs (.inl rfl) rfl
    | tuple xs => exact seq xs (.inr rfl) rfl
    | _ => cases e
  · cases x with
    | list xs => cases e
    | tuple xs => cases e
    | dict xs => cases h
    | _ => exact e_var rfl
theorem ok_tupled (T : Tx K mg) : ∀ n : Nat, FnOk P w K mg base CX0 (n + 1) T.tupled.f T.tupled.fd P_tupled (sp_tupled n)
  | 0 => T.tupled.F.ok (k := 0) sc_tupled (len_I fun _ => rfl) fun cdv A outer s H vs Q E hr h => ⟨_, dv_tupled T ok_no hr, fn_I (N := N_tupled) run_tupled0 vs H Q E h⟩
  | n + 1 => T.tupled.F.ok (k := n + 1) sc_tupled (len_I fun _ => rfl) fun cdv A outer s H vs Q E hr h => ⟨_, dv_tupled T (ok_tupled T n) hr, fn_I (N := N_tupled) (run_tupled n) vs H Q E h⟩
/-! ### _law_lists -/
def sp_lists (n : Nat) : Sp := spI (fun x : D => dep n x = true) (fun x => [x]) fun x r => r = lstN n x
theorem run_lists0 (x : D) (h : dep 0 x = true) : RunS (t_l_lists K spNo) (startR 2 [x]) { nx := fun _ => PyData.none = lstN 0 x, rt := fun _ r => r = lstN 0 x } := by
  refine r_ret (x := x) (e_if (b := false) ((e_isiLT (e_var rfl) (dep_notP h)).is ?_) (fun e => by cases e) fun _ => e_var rfl) rfl
  cases x <;> first | rfl | cases h
theorem run_lists (n : Nat) (x : D) (h : dep (n + 1) x = true) : RunS (t_l_lists K (sp_lists n)) (startR 2 [x]) { nx := fun _ => PyData.none = lstN (n + 1) x, rt := fun _ r => r = lstN (n + 1) x } := by
  have seq : ∀ xs : List D, seqD xs x → lstN (n + 1) x = .list (xs.map (lstN n)) → EvE (tLc (iSeq K (tVar 0)) (gName 1) tYes (tCall (sp_lists n) [] E0 (tCons (tVar 1) tNil)) [1]) (startR 2 [x]) (lstN (n + 1) x) := fun xs e et => by
    obtain ⟨h1, h2⟩ := dep_seq e h
    rw [et]
    have hi : Iter (iSeq K (tVar 0)) (startR 2 [x]) (xs.map id) := by
      rw [List.map_id]
      exact (i_seq (e_var rfl) e).i
    exact (f_lc0 xs id (lstN n) hi (fun y hy => bndc_name (by simp) (e_call (i := y) (e_var rfl).one (h2 y hy) fun r e => e)) (by omega)).e
  refine r_ret (x := lstN (n + 1) x) (e_if (e_isiLT (e_var rfl) (dep_notP h)) (fun e => ?_) fun e => ?_) rfl
  · cases x with
    | list xs => exact seq xs (.inl rfl) rfl
    | tuple xs => exact seq xs (.inr rfl) rfl
    | _ => cases e
  · cases x with
    | list xs => cases e
    | tuple xs => cases e
    | dict xs => cases h
    | _ => exact e_var rfl
theorem ok_lists (T : Tx K mg) : ∀ n : Nat, FnOk P w K mg base CX0 (n + 1) T.l_lists.f T.l_lists.fd P_l_lists (sp_lists n)
  | 0 => T.l_lists.F.ok (k := 0) sc_l_lists (len_I fun _ => rfl) fun cdv A outer s H vs Q E hr h => ⟨_, dv_l_lists T ok_no hr, fn_I (N := N_l_lists) run_lists0 vs H Q E h⟩
  | n + 1 => T.l_lists.F.ok (k := n + 1) sc_l_lists (len_I fun _ => rfl) fun cdv A outer s H vs Q E hr h => ⟨_, dv_l_lists T (ok_lists T n) hr, fn_I (N := N_l_lists) (run_lists n) vs H Q E h⟩
/-! ### _law_same, of one thing and the same -/
def sp_same (n : Nat) : Sp := spI (fun x : D => dep n x = true) (fun x => [x, x]) fun x r => r = .bool true
theorem eqv_atom {x : D} (h : dep 0 x = true) : PyData.eqv x x = true := by cases x <;> first | rfl | (cases h; done) | simp [PyData.eqv]
theorem okD_atom {x : D} (h : dep 0 x = true) : okD x = true := by
  cases x with
  | str z =>
    have h : PyData.strOk z = true := h
    show (true && (PyData.strOk z && true)) = true
    rw [h]
    rfl
  | _ => first | rfl | cases h
theorem eqv_bool (b : Bool) : PyData.eqv (.bool b) (.bool b) = true := by cases b <;> rfl
theorem t_neB {ρ : Rho} {ta tb : TE} {b : Bool} (h1 : EvE ta ρ (.bool b)) (h2 : EvE tb ρ (.bool b)) : EvT (tTest (tOp (rNeD K) ta tb)) ρ false := by
  have := t_test (e_op h1.b h2.b (o_ne (K := K) (x := .bool b) (y := .bool b) rfl rfl))
  rw [eqv_bool] at this
  exact this
theorem e_eqB {ρ : Rho} {ta tb : TE} {b : Bool} (h1 : EvE ta ρ (.bool b)) (h2 : EvE tb ρ (.bool b)) : EvE (tOp (rEqD K) ta tb) ρ (.bool true) := by
  have := e_op h1.b h2.b (o_eq (K := K) (x := .bool b) (y := .bool b) rfl rfl)
  rw [eqv_bool] at this
  exact this
theorem zip_same : ∀ xs : List D, zipD xs xs = xs.map fun d => prD d d
  | [] => rfl
  | x :: xs => by
    have ih := zip_same xs
    unfold zipD at ih ⊢
    rw [List.zip_cons_cons, List.map_cons, List.map_cons, ih]
theorem same_rest {t : Sp} {ρ : Rho} {n : Nat} {x : D} (hρ0 : ρ[0]? = some (some (.d x))) (hρ1 : ρ[1]? = some (some (.d x))) (h : dep 0 x = true) :
    RunS (tSeq (tIfS (tOr (tTest (tOp rIsN (tVar 1) (tC .non))) (tB (tCB (rIsiT K) (tCons (tVar 1) (tCons (tTup (tCons (tC (.ty "bool")) (tCons (tC (.ty "str")) tNil))) tNil))))) (tRet (tAndV (tOp (rEqD K) (tVar 0) (tVar 1)) (tAndV (tOp (rEqD K) (tCB (rIsi K) (tCons (tVar 0) (tCons (tC (.ty "bool")) tNil))) (tCB (rIsi K) (tCons (tVar 1) (tCons (tC (.ty "bool")) tNil)))) (tOp (rEqD K) (tOp rIsN (tVar 0) (tC .non)) (tOp rIsN (tVar 1) (tC .non)))))) tNext)
      (tRet (tAndV (tCB (rIsi K) (tCons (tVar 0) (tCons (tC (.ty "int")) tNil))) (tAndV (tNotV (tCB (rIsi K) (tCons (tVar 0) (tCons (tC (.ty "bool")) tNil)))) (tOp (rEqD K) (tVar 0) (tVar 1)))))) ρ { nx := fun _ => PyData.none = .bool true, rt := fun _ r => r = .bool true } := by
  have hp := dep_notP h
  have eq : EvE (tOp (rEqD K) (tVar 0) (tVar 1)) ρ (.bool true) := by
    have := e_op (e_var hρ0).b (e_var hρ1).b (o_eq (K := K) (okD_atom h) (okD_atom h))
    rw [eqv_atom h] at this
    exact this
  refine r_seq (r_if (b := isNon x || (kB x || kS x)) (t_or (t_test (e_op (e_var hρ1).b e_non.b o_isN)) fun _ => t_B (e_isi2 (e_var hρ1).b (kit_bs hp) hp)) (fun e => ?_) fun e => r_next ?_)
  · exact r_ret (x := .bool true) (e_and2 (a := true) (b := true) eq fun _ => e_and2 (a := true) (b := true) (e_eqB (e_isi (e_var hρ0).b (kit_bool hp) hp) (e_isi (e_var hρ1).b (kit_bool hp) hp)) fun _ => e_eqB (e_op (e_var hρ0).b e_non.b o_isN) (e_op (e_var hρ1).b e_non.b o_isN)) rfl
  · have h1 : kI x = true := by cases x <;> first | rfl | (cases e; done) | (cases h; done)
    have h2 : kB x = false := by cases x <;> first | rfl | (cases e; done) | (cases h; done)
    have a1 := e_isi (e_var hρ0).b (K := K) (kit_int hp) hp
    have a2 := e_not (e_isi (e_var hρ0).b (K := K) (kit_bool hp) hp)
    rw [h1] at a1
    rw [h2] at a2
    exact r_ret (x := .bool true) (e_and2 (a := true) (b := true) a1 fun _ => e_and2 (a := true) (b := true) a2 fun _ => eq) rfl
theorem run_same0 (x : D) (h : dep 0 x = true) : RunS (t_l_same K spNo) (startR 4 [x, x]) { nx := fun _ => PyData.none = .bool true, rt := fun _ r => r = .bool true } := by
  refine r_seq (r_if (b := false) ((e_isiLT (e_var (i := 1) rfl) (dep_notP h)).is ?_) (fun e => by cases e) fun _ => r_next ?_)
  · cases x <;> first | rfl | cases h
  · exact same_rest (t := spNo) (n := 0) rfl rfl h
theorem run_same (n : Nat) (x : D) (h : dep (n + 1) x = true) : RunS (t_l_same K (sp_same n)) (startR 4 [x, x]) { nx := fun _ => PyData.none = .bool true, rt := fun _ r => r = .bool true } := by
  have hp := dep_notP h
  have v0 : EvE (tVar 0) (startR 4 [x, x]) x := e_var rfl
  have v1 : EvE (tVar 1) (startR 4 [x, x]) x := e_var rfl
  refine r_seq (r_if (e_isiLT v1 hp) (fun e => ?_) fun e => r_next ?_)
  · have key : ∀ xs : List D, seqD xs x → IterS (RZ.iZipA K (tCons (tVar 0) (tCons (tVar 1) tNil))) (startR 4 [x, x]) (zipD xs xs) → RunS (tSeq (tIfS (tOr (tTest (tOp (rNeD K) (tCB (rIsi K) (tCons (tVar 0) (tCons (tC (.ty "list")) tNil))) (tCB (rIsi K) (tCons (tVar 1) (tCons (tC (.ty "list")) tNil))))) (tTest (tOp (rNeD K) (tCB (rIsi K) (tCons (tVar 0) (tCons (tC (.ty "tuple")) tNil))) (tCB (rIsi K) (tCons (tVar 1) (tCons (tC (.ty "tuple")) tNil)))))) (tRet (tC (.bl false))) tNext)
        (tRet (tAndV (tOp (rEqD K) (tCB (rLenQ K) (tCons (tVar 0) tNil)) (tCB (rLenQ K) (tCons (tVar 1) tNil))) (tCB (rAll K) (tCons (tLc (RZ.iZipA K (tCons (tVar 0) (tCons (tVar 1) tNil))) (gTup K 2 (gCons (gName 2) (gCons (gName 3) gNil))) tYes (tCall (sp_same n) [] E0 (tCons (tVar 2) (tCons (tVar 3) tNil))) [2, 3]) tNil))))) (startR 4 [x, x])
        { nx := fun ρ' => RunS (tSeq (tIfS (tOr (tTest (tOp rIsN (tVar 1) (tC .non))) (tB (tCB (rIsiT K) (tCons (tVar 1) (tCons (tTup (tCons (tC (.ty "bool")) (tCons (tC (.ty "str")) tNil))) tNil))))) (tRet (tAndV (tOp (rEqD K) (tVar 0) (tVar 1)) (tAndV (tOp (rEqD K) (tCB (rIsi K) (tCons (tVar 0) (tCons (tC (.ty "bool")) tNil))) (tCB (rIsi K) (tCons (tVar 1) (tCons (tC (.ty "bool")) tNil)))) (tOp (rEqD K) (tOp rIsN (tVar 0) (tC .non)) (tOp rIsN (tVar 1) (tC .non)))))) tNext)
          (tRet (tAndV (tCB (rIsi K) (tCons (tVar 0) (tCons (tC (.ty "int")) tNil))) (tAndV (tNotV (tCB (rIsi K) (tCons (tVar 0) (tCons (tC (.ty "bool")) tNil)))) (tOp (rEqD K) (tVar 0) (tVar 1)))))) ρ' { nx := fun _ => PyData.none = .bool true, rt := fun _ r => r = .bool true }, rt := fun _ r => r = .bool true } := fun xs e hz => by
      obtain ⟨h1, h2⟩ := dep_seq e h
      refine r_seq (r_if (b := false) (t_or (a := false) (b := false) (t_neB (e_isi v0.b (kit_list hp) hp) (e_isi v1.b (kit_list hp) hp)) fun _ => t_neB (e_isi v0.b (kit_tuple hp) hp) (e_isi v1.b (kit_tuple hp) hp)) (fun e => by cases e) fun _ => r_next ?_)
      have hl : EvE (tOp (rEqD K) (tCB (rLenQ K) (tCons (tVar 0) tNil)) (tCB (rLenQ K) (tCons (tVar 1) tNil))) (startR 4 [x, x]) (.bool true) := by
        have := e_op (e_cb v0.b.one (c_len (K := K) e)).b (e_cb v1.b.one (c_len (K := K) e)).b (o_eqN (K := K) (a := xs.length) (b := xs.length))
        rw [decide_eq_true rfl] at this
        exact this
      have ha := e_allLc (K := K) (g := gTup K 2 (gCons (gName 2) (gCons (gName 3) gNil))) (vs := [2, 3]) (te := tCall (sp_same n) [] E0 (tCons (tVar 2) (tCons (tVar 3) tNil))) xs (fun d => prD d d) (fun _ => true) (by rw [← zip_same]; exact hz.i)
        (fun y hy => bndc_pair (by simp) (by simp) (e_call (z := .bool true) y (s_cons (e_var (x := y) rfl) (e_var (x := y) rfl).one) (h2 y hy) fun r e => e)) (by omega)
      have et : (xs.all fun _ => true) = true := by simp
      rw [et] at ha
      exact r_ret (x := .bool true) (e_and2 (a := true) (b := true) hl fun _ => ha) rfl
    cases x with
    | list xs => exact key xs (.inl rfl) (i_zipL (s_cons v0 v1.one))
    | tuple xs => exact key xs (.inr rfl) (i_zipT (s_cons v0 v1.one))
    | _ => cases e
  · refine same_rest (t := spNo) (n := 0) rfl rfl ?_
    cases x with
    | list xs => cases e
    | tuple xs => cases e
    | dict xs => cases h
    | str z => exact h
    | _ => rfl
theorem ok_same (T : Tx K mg) : ∀ n : Nat, FnOk P w K mg base CX0 (n + 1) T.l_same.f T.l_same.fd P_l_same (sp_same n)
  | 0 => T.l_same.F.ok (k := 0) sc_l_same (len_I fun _ => rfl) fun cdv A outer s H vs Q E hr h => ⟨_, dv_l_same T ok_no hr, fn_I (N := N_l_same) run_same0 vs H Q E h⟩
  | n + 1 => T.l_same.F.ok (k := n + 1) sc_l_same (len_I fun _ => rfl) fun cdv A outer s H vs Q E hr h => ⟨_, dv_l_same T (ok_same T n) hr, fn_I (N := N_l_same) (run_same n) vs H Q E h⟩
/-! ### sure_web -/
/-- what stands for a web: itself, or lists in place of tuples -/
def isWeb (d : D) (m : Nat) (gs : List (Nat × Nat)) : Prop := dep 3 d = true ∧ tupN 3 d = webD m gs
theorem isWeb_self {m : Nat} {gs : List (Nat × Nat)} (W : WebOk m gs) : isWeb (webD m gs) m gs := by
  have hl : gs.length ≤ 1000 := Nat.le_trans W.few (by decide)
  refine ⟨?_, ?_⟩
  · show (decide (2 ≤ 1000) && ([natD m, .tuple (gs.map gD)] : List D).all (dep 2)) = true
    rw [Bool.and_eq_true, List.all_eq_true]
    refine ⟨by decide, fun x hx => ?_⟩
    rcases List.mem_cons.mp hx with e | hx
    · subst e; rfl
    · rcases List.mem_cons.mp hx with e | hx
      · subst e
        show (decide ((gs.map gD).length ≤ 1000) && (gs.map gD).all (dep 1)) = true
        rw [Bool.and_eq_true, List.all_eq_true, List.length_map]
        refine ⟨decide_eq_true hl, fun x hx => ?_⟩
        obtain ⟨g, _, rfl⟩ := List.mem_map.mp hx
        rfl
      · simp at hx
  · show PyData.tuple [natD m, .tuple ((gs.map gD).map (tupN 1))] = webD m gs
    rw [List.map_map]
    rfl
theorem isWeb_list {m : Nat} {gs : List (Nat × Nat)} (W : WebOk m gs) : isWeb (lstN 3 (webD m gs)) m gs := by
  have hl : gs.length ≤ 1000 := Nat.le_trans W.few (by decide)
  have e : lstN 3 (webD m gs) = .list [natD m, .list ((gs.map gD).map (lstN 1))] := rfl
  rw [e, List.map_map]
  refine ⟨?_, ?_⟩
  · show (decide (2 ≤ 1000) && ([natD m, .list (gs.map (lstN 1 ∘ gD))] : List D).all (dep 2)) = true
    rw [Bool.and_eq_true, List.all_eq_true]
    refine ⟨by decide, fun x hx => ?_⟩
    rcases List.mem_cons.mp hx with e | hx
    · subst e; rfl
    · rcases List.mem_cons.mp hx with e | hx
      · subst e
        show (decide ((gs.map (lstN 1 ∘ gD)).length ≤ 1000) && (gs.map (lstN 1 ∘ gD)).all (dep 1)) = true
        rw [Bool.and_eq_true, List.all_eq_true, List.length_map]
        refine ⟨decide_eq_true hl, fun x hx => ?_⟩
        obtain ⟨g, _, rfl⟩ := List.mem_map.mp hx
        rfl
      · simp at hx
  · show PyData.tuple [natD m, .tuple ((gs.map (lstN 1 ∘ gD)).map (tupN 1))] = webD m gs
    rw [List.map_map]
    rfl
/-- a web in two forms, its places, its guests -/
structure WebI where
  d : D
  m : Nat
  gs : List (Nat × Nat)
def WebI.ok (i : WebI) : Prop := isWeb i.d i.m i.gs ∧ WebOk i.m i.gs
def sp_sure_web : Sp := spI WebI.ok (fun i => [i.d]) fun i r => r = webD i.m i.gs
theorem run_sure_web (i : WebI) (h : i.ok) : RunS (t_sure_web K (sp_tupled 3) sp_is_web) (startR 2 [i.d]) { nx := fun _ => PyData.none = webD i.m i.gs, rt := fun _ r => r = webD i.m i.gs } := by
  obtain ⟨d, m, gs⟩ := i
  obtain ⟨⟨h1, h2⟩, h3⟩ := h
  refine r_seq (r_asg (x := webD m gs) (e_call d (e_var (x := d) rfl).one h1 fun r e => e.trans h2) ?_)
  refine r_seq (r_if (b := false) (t_not (a := true) (t_B (e_call (z := .bool true) (m, gs) (e_var (x := webD m gs) rfl).one h3 fun r e => e))) (fun e => by cases e) fun _ => r_next ?_)
  exact r_ret (x := webD m gs) (e_var rfl) rfl
theorem ok_sure_web (T : Tx K mg) : FnOk P w K mg base CX0 5 T.sure_web.f T.sure_web.fd P_sure_web sp_sure_web :=
  T.sure_web.F.ok (k := 4) sc_sure_web (len_I fun _ => rfl) fun cdv A outer s H vs Q E hr h => ⟨_, dv_sure_web T (ok_tupled T 3) (ok_is_web T) hr, fn_I (N := N_sure_web) run_sure_web vs H Q E h⟩
end
end Lw
set_option Elab.async false
set_option linter.all false
set_option maxRecDepth 100000
set_option maxHeartbeats 1000000
namespace Lw
open PySem PySem.Spec PyProof.Rows L2
section
variable {P : Program} {w : World} {K : PySem.W.Frag} {mg : Str → Option Value} {base : Heap}
/-- the guests of a web -/
theorem e_guests {ρ : Rho} {te : TE} {m : Nat} {gs : List (Nat × Nat)} (h : EvE te ρ (webD m gs)) : EvE (tOp (rIx K) te (tC (.int 1))) ρ (.tuple (gs.map gD)) := e_snd h
theorem e_many {ρ : Rho} {te : TE} {m : Nat} {gs : List (Nat × Nat)} (h : EvE te ρ (webD m gs)) : EvE (tOp (rIx K) te (tC (.int 0))) ρ (natD m) := e_fst h
theorem e_lenG {ρ : Rho} {te : TE} {m : Nat} {gs : List (Nat × Nat)} (h : EvE te ρ (webD m gs)) : EvE (tCB (rLenQ K) (tCons (tOp (rIx K) te (tC (.int 1))) tNil)) ρ (natD gs.length) := by
  have := e_cb (e_guests (K := K) h).b.one (c_lenT (K := K))
  rw [List.length_map] at this
  exact this
theorem e_lenT {ρ : Rho} {te : TE} {ts : List (Option Nat)} (h : EvE te ρ (takD ts)) : EvE (tCB (rLenQ K) (tCons te tNil)) ρ (natD ts.length) := by
  have := e_cb h.b.one (c_lenT (K := K))
  rw [List.length_map] at this
  exact this
theorem e_lenN {ρ : Rho} {te : TE} {l : List Nat} (h : EvE te ρ (natsT l)) : EvE (tCB (rLenQ K) (tCons te tNil)) ρ (natD l.length) := by
  have := e_cb h.b.one (c_lenT (K := K))
  rw [natsD_len] at this
  exact this
theorem e_lenL {ρ : Rho} {te : TE} {l : List Nat} (h : EvB te ρ (natsL l)) : EvE (tCB (rLenQ K) (tCons te tNil)) ρ (natD l.length) := by
  have := e_cb h.one (c_lenL (K := K))
  rw [natsD_len] at this
  exact this
theorem get_guest {gs : List (Nat × Nat)} {l : Nat} (h : l < gs.length) : (gs.map gD)[l]? = some (gD (gAt gs l)) := by
  rw [List.getElem?_map, List.getElem?_eq_getElem h]
  unfold gAt
  rw [List.getD_eq_getElem?_getD, List.getElem?_eq_getElem h]
  rfl
theorem get_seat {ts : List (Option Nat)} {l : Nat} (h : l < ts.length) : (ts.map tD)[l]? = some (tD (ts.getD l none)) := by
  rw [List.getElem?_map, List.getElem?_eq_getElem h, List.getD_eq_getElem?_getD, List.getElem?_eq_getElem h]
  rfl
theorem e_guest {ρ : Rho} {te tk : TE} {m l : Nat} {gs : List (Nat × Nat)} (h : EvE te ρ (webD m gs)) (hk : EvE tk ρ (natD l)) (hl : l < gs.length) : EvE (tOp (rIx K) (tOp (rIx K) te (tC (.int 1))) tk) ρ (gD (gAt gs l)) := e_op (e_guests h).b hk.b (o_ixT (get_guest hl))
theorem e_seat {ρ : Rho} {te tk : TE} {l : Nat} {ts : List (Option Nat)} (h : EvE te ρ (takD ts)) (hk : EvE tk ρ (natD l)) (hl : l < ts.length) : EvE (tOp (rIx K) te tk) ρ (tD (ts.getD l none)) := e_op h.b hk.b (o_ixT (get_seat hl))
/-! ### is_row_in, is_order_in -/
structure RowI where
  m : Nat
  gs : List (Nat × Nat)
  o : List Nat
def RowI.ok (i : RowI) : Prop := Ord i.gs.length i.o ∧ i.gs.length ≤ 20
def sp_is_row_in : Sp := spI RowI.ok (fun i => [webD i.m i.gs, natsT i.o]) fun i r => r = .bool true
theorem run_is_row_in (i : RowI) (h : i.ok) : RunS (t_is_row_in K sp_is_within) (startR 3 [webD i.m i.gs, natsT i.o]) { nx := fun _ => PyData.none = .bool true, rt := fun _ r => r = .bool true } := by
  obtain ⟨m, gs, o⟩ := i
  obtain ⟨ho, hn⟩ := h
  have hl : o.length = gs.length := ho.len
  have v1 : EvE (tVar 1) (startR 3 [webD m gs, natsT o]) (natsT o) := e_var rfl
  have ha := e_allLc (K := K) (ρ := startR 3 [webD m gs, natsT o]) (wi := iSeq K (tVar 1)) (g := gName 2) (vs := [2]) (te := tCall sp_is_within [] E0 (tCons (tVar 2) (tCons (tC (.int 0)) (tCons (tOp rSubI (tCB (rLenQ K) (tCons (tOp (rIx K) (tVar 0) (tC (.int 1))) tNil)) (tC (.int 1))) tNil)))) o natD (fun x => withinB (natD x) 0 ((gs.length : Int) - 1))
    (i_seq v1 (.inr rfl)).i (fun y hy => bndc_name (by simp) (e_is_within (e_var (x := natD y) rfl) e_int (e_op (e_lenG (m := m) (gs := gs) (e_var rfl)).b e_int.b o_sub) rfl)) (by show o.length ≤ 50000; have := hl; have := hn; simp at *; omega)
  have hv : (o.all fun x => withinB (natD x) 0 ((gs.length : Int) - 1)) = true := by
    rw [List.all_eq_true]
    exact fun x hx => within_nat (ho.mem.mp hx)
  rw [hv] at ha
  refine r_seq (r_if (b := false) (t_or (a := false) (b := false) (t_not (a := true) (t_B (e_isi v1.b (kit_tuple (x := natsT o) rfl)))) fun _ => t_not (a := true) (t_B ha)) (fun e => by cases e) fun _ => r_next ?_)
  have he := e_op (e_lenSet (K := K) v1.b (.inr rfl) (by show o.length < 64; have := hl; have := hn; simp at *; omega)).b (e_lenN (K := K) v1).b (o_eqN (K := K))
  rw [decide_eq_true (dd_len.mpr ho.nodup)] at he
  exact r_ret (x := .bool true) he rfl
theorem ok_is_row_in (T : Tx K mg) : FnOk P w K mg base CX0 3 T.is_row_in.f T.is_row_in.fd P_is_row_in sp_is_row_in :=
  T.is_row_in.F.ok (k := 2) sc_is_row_in (len_I fun _ => rfl) fun cdv A outer s H vs Q E hr h => ⟨_, dv_is_row_in T (ok_is_within T) hr, fn_I (N := N_is_row_in) run_is_row_in vs H Q E h⟩
def sp_is_order_in : Sp := spI RowI.ok (fun i => [webD i.m i.gs, natsT i.o]) fun i r => r = .bool true
theorem run_is_order_in (i : RowI) (h : i.ok) : RunS (t_is_order_in K sp_is_row_in) (startR 2 [webD i.m i.gs, natsT i.o]) { nx := fun _ => PyData.none = .bool true, rt := fun _ r => r = .bool true } := by
  have he := e_op (e_lenN (K := K) (l := i.o) (e_var (ρ := startR 2 [webD i.m i.gs, natsT i.o]) (i := 1) rfl)).b (e_lenG (K := K) (m := i.m) (gs := i.gs) (e_var (i := 0) rfl)).b (o_eqN (K := K))
  rw [decide_eq_true h.1.len] at he
  exact r_ret (x := .bool true) (e_and2 (a := true) (b := true) (e_call i (s_cons (e_var rfl) (e_var rfl).one) h fun r e => e) fun _ => he) rfl
theorem ok_is_order_in (T : Tx K mg) : FnOk P w K mg base CX0 4 T.is_order_in.f T.is_order_in.fd P_is_order_in sp_is_order_in :=
  T.is_order_in.F.ok (k := 3) sc_is_order_in (len_I fun _ => rfl) fun cdv A outer s H vs Q E hr h => ⟨_, dv_is_order_in T (ok_is_row_in T) hr, fn_I (N := N_is_order_in) run_is_order_in vs H Q E h⟩
/-! ### is_taking_in -/
structure TakI where
  m : Nat
  gs : List (Nat × Nat)
  ts : List (Option Nat)
structure TakOk (gs : List (Nat × Nat)) (ts : List (Option Nat)) : Prop where
  len : ts.length = gs.length
  at_ : ∀ k p, has ts k p → p = (gAt gs k).1 ∨ p = (gAt gs k).2
  few : gs.length ≤ 20
def held (ts : List (Option Nat)) : List Nat := ts.filterMap id
theorem held_map (ts : List (Option Nat)) : (ts.filter fun o => o.isSome).map tD = natsD (held ts) := by
  induction ts with
  | nil => rfl
  | cons o ts ih =>
    cases o with
    | none => exact ih
    | some p =>
      have e : held (some p :: ts) = p :: held ts := rfl
      rw [e]
      show tD (some p) :: (ts.filter fun o => o.isSome).map tD = natsD (p :: held ts)
      rw [ih]
      rfl
theorem isNon_tD (o : Option Nat) : isNon (tD o) = !o.isSome := by cases o <;> rfl
theorem notP_tD (o : Option Nat) : notP (tD o) = true := by cases o <;> rfl
theorem held_len (ts : List (Option Nat)) : (held ts).length ≤ ts.length := List.length_filterMap_le _ _
def sp_is_taking_in : Sp := spI (fun i : TakI => TakOk i.gs i.ts) (fun i => [webD i.m i.gs, takD i.ts]) fun i r => r = .bool (decide (held i.ts).Nodup)
theorem run_is_taking_in (i : TakI) (h : TakOk i.gs i.ts) : RunS (t_is_taking_in K sp_is_number) (startR 5 [webD i.m i.gs, takD i.ts]) { nx := fun _ => PyData.none = .bool (decide (held i.ts).Nodup), rt := fun _ r => r = .bool (decide (held i.ts).Nodup) } := by
  obtain ⟨m, gs, ts⟩ := i
  have hl : ts.length = gs.length := h.len
  have hf : gs.length ≤ 20 := h.few
  have e1 := t_test (e_op (e_lenT (K := K) (ts := ts) (e_var (ρ := startR 5 [webD m gs, takD ts]) (i := 1) rfl)).b (e_lenG (K := K) (m := m) (gs := gs) (e_var (i := 0) rfl)).b (o_neN (K := K)))
  rw [decide_eq_true hl] at e1
  refine r_seq (r_if (b := false) (t_or (a := false) (b := false) (t_not (a := true) (t_B (e_isi (e_var (i := 1) rfl).b (kit_tuple (x := takD ts) rfl)))) fun _ => e1) (fun e => by cases e) fun _ => r_next ?_)
  refine r_seq (r_for (ts.zip gs) (fun p => prD (tD p.1) (gD p.2)) (fun _ ρ' => ∃ a b, ρ' = [some (.d (webD m gs)), some (.d (takD ts)), a, b, none]) ?_ ⟨none, none, rfl⟩ ?_ ?_)
  · have hz := i_zipT (K := K) (s_cons (e_var (ρ := startR 5 [webD m gs, takD ts]) (i := 1) (x := takD ts) rfl) (e_guests (K := K) (m := m) (gs := gs) (e_var (i := 0) rfl)).one)
    have ez : zipD (ts.map tD) (gs.map gD) = (ts.zip gs).map fun p => prD (tD p.1) (gD p.2) := by
      unfold zipD
      rw [List.zip_map, List.map_map]
      rfl
    rw [ez] at hz
    exact hz
  · rintro i ⟨o, g⟩ ρ1 hi ⟨a, b, rfl⟩
    refine bnd_pair (r_if (b := false) ?_ (fun e => by cases e) fun _ => r_next ⟨_, _, rfl⟩)
    obtain ⟨h1, h2⟩ := List.getElem?_zip_eq_some.mp hi
    cases o with
    | none => exact t_and (a := false) (b := false) (t_test (e_op (e_var (x := tD none) rfl).b e_non.b o_notN)) fun e => by cases e
    | some p =>
      have hm := h.at_ i p h1
      have hg : gAt gs i = g := by
        unfold gAt
        rw [List.getD_eq_getElem?_getD, h2]
        rfl
      rw [hg] at hm
      refine t_and (a := true) (b := false) (t_test (e_op (e_var (x := tD (some p)) rfl).b e_non.b o_notN)) fun _ => t_not (a := true) (t_and (a := true) (b := true) (t_B (e_is_number (e_var (x := natD p) rfl) rfl)) fun _ => ?_)
      have hin := t_test (e_op (e_var (ρ := [some (.d (webD m gs)), some (.d (takD ts)), some (.d (natD p)), some (.d (gD g)), none]) (i := 2) (x := natD p) rfl).b (e_var (i := 3) (x := gD g) rfl).b (o_inT (K := K) (k := (p : Int)) (ns := [(g.1 : Int), (g.2 : Int)])))
      have hd : (p : Int) ∈ [(g.1 : Int), (g.2 : Int)] := by
        rcases hm with e | e <;> simp [e]
      rw [decide_eq_true hd] at hin
      exact hin
  · rintro ρ1 ⟨a, b, rfl⟩
    have hlc := f_lc (ρ := [some (.d (webD m gs)), some (.d (takD ts)), a, b, none]) (wi := iSeq K (tVar 1)) (g := gName 2) (vs := [2]) (tt := tTest (tOp rNotN (tVar 2) (tC .non))) (te := tVar 2) ts tD (fun o => o.isSome) tD (i_seq (e_var (x := takD ts) rfl) (.inr rfl)).i
      (fun y hy => bndc_name (by simp) ⟨(t_test (e_op (e_var (x := tD y) rfl).b e_non.b o_notN)).is (by rw [isNon_tD, Bool.not_not]), fun _ => e_var (x := tD y) rfl⟩) (by omega)
    rw [held_map] at hlc
    refine r_seq (r_asg hlc.e ?_)
    have v4 : EvE (tVar 4) [some (.d (webD m gs)), some (.d (takD ts)), a, b, some (.d (natsL (held ts)))] (natsL (held ts)) := e_var rfl
    have hh := held_len ts
    have he := e_op (e_lenSet (K := K) v4.b (.inl rfl) (by omega)).b (e_lenL (K := K) v4.b).b (o_eqN (K := K))
    refine r_ret he ?_
    show PyData.bool (decide ((dd (held ts)).length = (held ts).length)) = .bool (decide (held ts).Nodup)
    congr 1
    exact decide_eq_decide.mpr dd_len
theorem ok_is_taking_in (T : Tx K mg) : FnOk P w K mg base CX0 2 T.is_taking_in.f T.is_taking_in.fd P_is_taking_in sp_is_taking_in :=
  T.is_taking_in.F.ok (k := 1) sc_is_taking_in (len_I fun _ => rfl) fun cdv A outer s H vs Q E hr h => ⟨_, dv_is_taking_in T (ok_is_number T) hr, fn_I (N := N_is_taking_in) run_is_taking_in vs H Q E h⟩
/-! ### holders_in -/
def lkL (ts : List (Option Nat)) : List (Nat × Nat) := (ts.zipIdx.filter fun p => p.1.isSome).map fun p => (p.1.getD 0, p.2)
def lkF (ts : List (Option Nat)) : Nat → Option Nat := (lkL ts).foldl putF fun _ => none
theorem fold_some : ∀ {L : List (Nat × Nat)} {lk : Nat → Option Nat} {k f : Nat}, L.foldl putF lk k = some f → (k, f) ∈ L ∨ lk k = some f
  | [], _, _, _, h => .inr h
  | p :: L, lk, k, f, h => by
    rcases fold_some (L := L) h with h | h
    · exact .inl (List.mem_cons_of_mem _ h)
    · unfold putF at h
      by_cases e : k = p.1
      · rw [if_pos e] at h
        have := Option.some.inj h
        exact .inl (by rw [e, ← this]; exact List.mem_cons_self)
      · rw [if_neg e] at h
        exact .inr h
theorem fold_is : ∀ {L : List (Nat × Nat)} {lk : Nat → Option Nat} {k : Nat}, ((∃ f, (k, f) ∈ L) ∨ (lk k).isSome = true) → (L.foldl putF lk k).isSome = true
  | [], _, _, h => by
    rcases h with ⟨_, h⟩ | h
    · simp at h
    · exact h
  | p :: L, lk, k, h => by
    refine fold_is (L := L) ?_
    by_cases e : k = p.1
    · exact .inr (by unfold putF; rw [if_pos e]; rfl)
    · rcases h with ⟨f, h⟩ | h
      · rcases List.mem_cons.mp h with z | z
        · exact absurd (by rw [← z]) e
        · exact .inl ⟨f, z⟩
      · exact .inr (by unfold putF; rw [if_neg e]; exact h)
theorem mem_lkL {ts : List (Option Nat)} {k f : Nat} : (k, f) ∈ lkL ts ↔ has ts f k := by
  unfold lkL has
  rw [List.mem_map]
  constructor
  · rintro ⟨⟨o, i⟩, h, e⟩
    obtain ⟨h1, h2⟩ := List.mem_filter.mp h
    have h3 := List.mem_zipIdx_iff_getElem?.mp h1
    cases o with
    | none => cases h2
    | some p =>
      have e1 : p = k := congrArg Prod.fst e
      have e2 : i = f := congrArg Prod.snd e
      rw [← e1, ← e2]
      exact h3
  · intro h
    exact ⟨(some k, f), List.mem_filter.mpr ⟨List.mem_zipIdx_iff_getElem?.mpr h, rfl⟩, rfl⟩
theorem lkF_has {ts : List (Option Nat)} {k f : Nat} (h : lkF ts k = some f) : has ts f k := by
  rcases fold_some h with h | h
  · exact mem_lkL.mp h
  · cases h
theorem lkF_is {ts : List (Option Nat)} {k : Nat} : (lkF ts k).isSome = ts.contains (some k) := by
  by_cases h : ts.contains (some k) = true
  · rw [h]
    obtain ⟨f, hf⟩ := List.getElem?_of_mem (List.contains_iff_mem.mp h)
    exact fold_is (.inl ⟨f, mem_lkL.mpr hf⟩)
  · have h' : ts.contains (some k) = false := by simpa using h
    rw [h']
    cases e : lkF ts k with
    | none => rfl
    | some f =>
      exact absurd (List.contains_iff_mem.mpr (List.mem_of_getElem? (lkF_has e))) h
def sp_holders_in : Sp := spO (fun ts : List (Option Nat) => ts.length ≤ 20) (fun ts => [takD ts]) fun ts => mdictF (lkF ts)
theorem run_holders_in (ts : List (Option Nat)) (h : ts.length ≤ 20) : EvF (tDc (iEnumT K (tCons (tVar 0) tNil)) (gTup K 2 (gCons (gName 1) (gCons (gName 2) gNil))) (tTest (tOp rNotN (tVar 2) (tC .non))) (tVar 2) (tVar 1) [1, 2]) (startR 3 [takD ts]) (mdictF (lkF ts)) := by
  have hi := i_enumT (K := K) (e_var (ρ := startR 3 [takD ts]) (i := 0) (x := takD ts) rfl)
  rw [enumD_map] at hi
  refine f_dc ts.zipIdx (fun p => prD (natD p.2) (tD p.1)) (fun p => p.1.isSome) (fun p => (p.1.getD 0, p.2)) hi.i (fun y hy => bndc_pair (by simp) (by simp) ⟨(t_test (e_op (e_var (x := tD y.1) rfl).b e_non.b o_notN)).is (by rw [isNon_tD, Bool.not_not]), fun hs => ⟨?_, e_var rfl⟩⟩) (by rw [List.length_zipIdx]; omega)
  obtain ⟨o, i⟩ := y
  cases o with
  | none => cases hs
  | some p => exact e_var rfl
theorem ok_holders_in (T : Tx K mg) : FnOk P w K mg base CX0 1 T.holders_in.f T.holders_in.fd P_holders_in sp_holders_in :=
  T.holders_in.F.ok (k := 0) sc_holders_in (len_O fun _ => rfl) fun cdv A outer s H vs Q E hr h => ⟨_, dv_holders_in T hr, fn_O (N := N_holders_in) run_holders_in vs H Q E h⟩
/-! ### asked_in -/
structure AskI where
  m : Nat
  gs : List (Nat × Nat)
  ts : List (Option Nat)
  l : Nat
def AskI.ok (i : AskI) : Prop := i.ts.length = i.gs.length ∧ i.l < i.gs.length
theorem eqv_tD (o : Option Nat) (a : Nat) : PyData.eqv (tD o) (natD a) = decide (o = some a) := by
  cases o with
  | none => rfl
  | some p =>
    rw [show tD (some p) = natD p from rfl, eqv_nat]
    exact decide_eq_decide.mpr ⟨fun e => by rw [e], fun e => Option.some.inj e⟩
theorem okD_tD (o : Option Nat) : okD (tD o) = true := by cases o <;> rfl
theorem o_eqT {o : Option Nat} {a : Nat} : OpD (rEqD K) (tD o) (natD a) (.bool (decide (o = some a))) := by
  have := o_eq (K := K) (okD_tD o) (okD_nat a)
  rw [eqv_tD] at this
  exact this
def sp_asked_in : Sp := spI AskI.ok (fun i => [webD i.m i.gs, takD i.ts, natD i.l]) fun i r => r = natsT (ask i.gs i.ts i.l)
theorem run_asked_in (i : AskI) (h : i.ok) : RunS (t_asked_in K) (startR 5 [webD i.m i.gs, takD i.ts, natD i.l]) { nx := fun _ => PyData.none = natsT (ask i.gs i.ts i.l), rt := fun _ r => r = natsT (ask i.gs i.ts i.l) } := by
  obtain ⟨m, gs, ts, l⟩ := i
  obtain ⟨h1, h2⟩ := h
  have h3 : l < ts.length := by rw [h1]; exact h2
  refine r_seq (r_unp (z_e (e_guest (m := m) (gs := gs) (l := l) (e_var rfl) (e_var rfl) h2) ⟨_, _, rfl, ?_⟩))
  have vs : EvE (tOp (rIx K) (tVar 1) (tVar 2)) [some (.d (webD m gs)), some (.d (takD ts)), some (.d (natD l)), some (.d (natD (gAt gs l).1)), some (.d (natD (gAt gs l).2))] (tD (ts.getD l none)) := e_seat (e_var rfl) (e_var rfl) h3
  refine r_seq (r_if (t_test (e_op vs.b (e_var (x := natD (gAt gs l).1) rfl).b o_eqT)) (fun e => ?_) fun e => r_next ?_)
  · refine r_ret (x := .tuple []) (e_tup s_nil (by decide)) ?_
    unfold ask askF
    rw [if_pos (of_decide_eq_true e)]
    rfl
  · refine r_ret (x := natsT (ask gs ts l)) (e_if (t_test (e_op vs.b (e_var (x := natD (gAt gs l).2) rfl).b o_eqT)) (fun e2 => ?_) fun e2 => ?_) rfl
    · unfold ask askF
      rw [if_neg (of_decide_eq_false e), if_pos (of_decide_eq_true e2)]
      exact e_tup (e_var (x := natD (gAt gs l).1) rfl).one (Nat.le_of_ble_eq_true rfl)
    · unfold ask askF
      rw [if_neg (of_decide_eq_false e), if_neg (of_decide_eq_false e2)]
      exact e_tup (s_cons (e_var (x := natD (gAt gs l).1) rfl) (e_var (x := natD (gAt gs l).2) rfl).one) (Nat.le_of_ble_eq_true rfl)
theorem ok_asked_in (T : Tx K mg) : FnOk P w K mg base CX0 1 T.asked_in.f T.asked_in.fd P_asked_in sp_asked_in :=
  T.asked_in.F.ok (k := 0) sc_asked_in (len_I fun _ => rfl) fun cdv A outer s H vs Q E hr h => ⟨_, dv_asked_in T hr, fn_I (N := N_asked_in) run_asked_in vs H Q E h⟩
theorem e_asked {ρ : Rho} {ta tb tc : TE} {m l : Nat} {gs : List (Nat × Nat)} {ts : List (Option Nat)} (h1 : EvE ta ρ (webD m gs)) (h2 : EvE tb ρ (takD ts)) (h3 : EvE tc ρ (natD l)) (hl : ts.length = gs.length) (hlt : l < gs.length) {E : XK} :
    EvE (tCall sp_asked_in [] E (tCons ta (tCons tb (tCons tc tNil)))) ρ (natsT (ask gs ts l)) := e_call (⟨m, gs, ts, l⟩ : AskI) (s_cons h1 (s_cons h2 h3.one)) ⟨hl, hlt⟩ fun r e => e
theorem ask_len (gs : List (Nat × Nat)) (ts : List (Option Nat)) (l : Nat) : (ask gs ts l).length ≤ 2 := by
  unfold ask askF
  split
  · exact Nat.le_of_ble_eq_true rfl
  · split <;> exact Nat.le_of_ble_eq_true rfl
/-! ### arrows_in -/
def arrL (gs : List (Nat × Nat)) (ts : List (Option Nat)) (l : Nat) : List (Nat × Nat) := ((ask gs ts l).filter fun p => (lkF ts p).isSome).map fun p => ((lkF ts p).getD 0, l)
def arrA (gs : List (Nat × Nat)) (ts : List (Option Nat)) (n : Nat) : List (Nat × Nat) := (List.range n).flatMap (arrL gs ts)
theorem arrA_succ (gs : List (Nat × Nat)) (ts : List (Option Nat)) (n : Nat) : arrA gs ts (n + 1) = arrA gs ts n ++ arrL gs ts n := by
  unfold arrA
  rw [List.range_succ, List.flatMap_append]
  simp
theorem arrL_len (gs : List (Nat × Nat)) (ts : List (Option Nat)) (l : Nat) : (arrL gs ts l).length ≤ 2 := by
  unfold arrL
  rw [List.length_map]
  exact Nat.le_trans (List.length_filter_le _ _) (ask_len gs ts l)
theorem arrA_len (gs : List (Nat × Nat)) (ts : List (Option Nat)) : ∀ n, (arrA gs ts n).length ≤ 2 * n
  | 0 => Nat.le_refl _
  | n + 1 => by
    rw [arrA_succ, List.length_append]
    have := arrA_len gs ts n
    have := arrL_len gs ts n
    omega
structure TakV (gs : List (Nat × Nat)) (ts : List (Option Nat)) : Prop where
  V : Valid gs ts
  few : gs.length ≤ 20
theorem arrA_mem {gs : List (Nat × Nat)} {ts : List (Option Nat)} (V : Valid gs ts) {f l : Nat} : (f, l) ∈ arrA gs ts ts.length ↔ arrB gs ts f l = true := by
  unfold arrA
  rw [List.mem_flatMap, arrB_iff]
  constructor
  · rintro ⟨l', hl', h⟩
    unfold arrL at h
    obtain ⟨p, hp, e⟩ := List.mem_map.mp h
    obtain ⟨hp1, hp2⟩ := List.mem_filter.mp hp
    have e1 : (lkF ts p).getD 0 = f := congrArg Prod.fst e
    have e2 : l' = l := congrArg Prod.snd e
    subst e2
    cases hk : lkF ts p with
    | none => rw [hk] at hp2; cases hp2
    | some f' =>
      rw [hk] at e1
      have e1 : f' = f := e1
      subst e1
      exact ⟨List.mem_range.mp hl', p, hp1, lkF_has hk⟩
  · rintro ⟨hl, p, hp, hf⟩
    refine ⟨l, List.mem_range.mpr hl, ?_⟩
    have hs : (lkF ts p).isSome = true := by
      rw [lkF_is]
      exact List.contains_iff_mem.mpr (List.mem_of_getElem? hf)
    refine List.mem_map.mpr ⟨p, List.mem_filter.mpr ⟨hp, hs⟩, ?_⟩
    cases hk : lkF ts p with
    | none => rw [hk] at hs; cases hs
    | some f' =>
      have := V.inj f' f p (lkF_has hk) hf
      rw [← this]
      rfl
def ArrR (gs : List (Nat × Nat)) (ts : List (Option Nat)) (as : List (Nat × Nat)) : Prop := (∀ f l, (f, l) ∈ as ↔ arrB gs ts f l = true) ∧ as.length < 64
def sp_arrows_in : Sp := spI (fun i : TakI => TakV i.gs i.ts) (fun i => [webD i.m i.gs, takD i.ts]) fun i r => ∃ as : List (Nat × Nat), r = .list (as.map pairD) ∧ ArrR i.gs i.ts as
theorem f_holders {ρ : Rho} {te : TE} {ts : List (Option Nat)} (h : EvE te ρ (takD ts)) (hl : ts.length ≤ 20) {E : XK} : EvF (tCall sp_holders_in [] E (tCons te tNil)) ρ (mdictF (lkF ts)) := f_call ts h.one hl
theorem run_arrows_in (i : TakI) (h : TakV i.gs i.ts) : RunS (t_arrows_in K sp_holders_in sp_asked_in) (startR 6 [webD i.m i.gs, takD i.ts]) { nx := fun _ => ∃ as : List (Nat × Nat), PyData.none = .list (as.map pairD) ∧ ArrR i.gs i.ts as, rt := fun _ r => ∃ as : List (Nat × Nat), r = .list (as.map pairD) ∧ ArrR i.gs i.ts as } := by
  obtain ⟨m, gs, ts⟩ := i
  obtain ⟨V, hf⟩ := h
  have V : Valid gs ts := V
  have hf : gs.length ≤ 20 := hf
  have hl : ts.length = gs.length := V.len
  refine r_seq (r_tup2 (k_f (f_holders (ts := ts) (e_var rfl) (by omega)) (k_f (w := mlist []) (f_lst s_nil (by decide)) (k_nil ⟨_, _, rfl, Nat.le_of_ble_eq_true rfl, Nat.le_of_ble_eq_true rfl, ?_⟩))))
  refine r_seq (r_for (List.range ts.length) natD (fun j ρ' => ∃ a, ρ' = [some (.d (webD m gs)), some (.d (takD ts)), some (.o (mdictF (lkF ts))), some (.o (mlist ((arrA gs ts j).map pairD))), a, none]) (i_rng1 (e_lenT (e_var rfl)) (by omega)) ⟨none, rfl⟩ ?_ ?_)
  · rintro j l ρ1 hj ⟨a, rfl⟩
    obtain ⟨h1, h2⟩ := List.getElem?_eq_some_iff.mp hj
    rw [List.getElem_range] at h2
    subst h2
    rw [List.length_range] at h1
    have hb := arrA_len gs ts j
    have hb2 := arrL_len gs ts j
    refine bnd_name (r_ext (xs := (arrL gs ts j).map pairD) (ds := (arrA gs ts j).map pairD) rfl ?_ (by rw [List.length_map, List.length_map]; omega) ⟨some (.d (natD j)), ?_⟩)
    · unfold arrL
      rw [List.map_map]
      refine f_lc (ask gs ts j) natD (fun p => (lkF ts p).isSome) _ (i_seq (x := natsT (ask gs ts j)) (e_asked (m := m) (e_var rfl) (e_var rfl) (e_var rfl) hl (by omega)) (.inr rfl)).i (fun p hp => bndc_name (by simp) ⟨t_B (e_din rfl (e_var (x := natD p) rfl)), fun hs => ?_⟩) (Nat.le_trans (ask_len gs ts j) (by decide))
      cases hk : lkF ts p with
      | none => rw [hk] at hs; cases hs
      | some f =>
        show EvE _ _ (prD (natD ((lkF ts p).getD 0)) (natD j))
        rw [hk]
        exact e_pair (s_cons (e_dget rfl (e_var (x := natD p) rfl) hk) (e_var rfl).one)
    · rw [arrA_succ, List.map_append]
      rfl
  · rintro ρ1 ⟨a, rfl⟩
    rw [List.length_range]
    have hb := arrA_len gs ts ts.length
    refine r_retP ((p_sortP (b_var rfl) (by omega) fun p hp => ?_).imp fun r ⟨bs, h1, h2⟩ => ⟨bs, h2, fun f l => ?_, ?_⟩)
    · obtain ⟨f, l⟩ := p
      have h3 := (arrB_iff.mp ((arrA_mem V).mp hp))
      obtain ⟨h4, q, _, h5⟩ := h3
      have h6 := has_lt h5
      exact ⟨by show f < 1000; omega, by show l < 1000; omega⟩
    · rw [h1.mem_iff, arrA_mem V]
    · rw [h1.length_eq]; omega
theorem ok_arrows_in (T : Tx K mg) : FnOk P w K mg base CX0 2 T.arrows_in.f T.arrows_in.fd P_arrows_in sp_arrows_in :=
  T.arrows_in.F.ok (k := 1) sc_arrows_in (len_I fun _ => rfl) fun cdv A outer s H vs Q E hr h => ⟨_, dv_arrows_in T (ok_holders_in T) (ok_asked_in T) hr, fn_I (N := N_arrows_in) run_arrows_in vs H Q E h⟩
/-! ### lacking_in -/
def sp_lacking_in : Sp := spI (fun i : TakI => TakV i.gs i.ts) (fun i => [webD i.m i.gs, takD i.ts]) fun i r => r = natsL (lackF i.gs i.ts)
theorem run_lacking_in (i : TakI) (h : TakV i.gs i.ts) : RunS (t_lacking_in K sp_holders_in sp_asked_in) (startR 5 [webD i.m i.gs, takD i.ts]) { nx := fun _ => PyData.none = natsL (lackF i.gs i.ts), rt := fun _ r => r = natsL (lackF i.gs i.ts) } := by
  obtain ⟨m, gs, ts⟩ := i
  obtain ⟨V, hf⟩ := h
  have V : Valid gs ts := V
  have hf : gs.length ≤ 20 := hf
  have hl : ts.length = gs.length := V.len
  refine r_seq (r_asgF (f_holders (ts := ts) (e_var rfl) (by omega)) (Nat.le_of_ble_eq_true rfl) ?_)
  refine r_ret (x := natsL (lackF gs ts)) (f_lc (List.range ts.length) natD (fun l => (ask gs ts l).any fun p => !(ts.contains (some p))) natD (i_rng1 (e_lenT (e_var rfl)) (by omega)).i (fun l hm => bndc_name (by simp) ⟨t_B ?_, fun _ => e_var rfl⟩) (by rw [List.length_range]; omega)).e rfl
  have hlt := List.mem_range.mp hm
  refine e_anyLc (ask gs ts l) natD (fun p => !(ts.contains (some p))) (i_seq (x := natsT (ask gs ts l)) (e_asked (m := m) (e_var rfl) (e_var rfl) (e_var rfl) hl (by omega)) (.inr rfl)).i (fun p hp => bndc_name (by simp) ?_) (Nat.le_trans (ask_len gs ts l) (by decide))
  have := e_dnotin (lk := lkF ts) (i := 2) (k := p) (ρ := (wipeR ((wipeR [some (.d (webD m gs)), some (.d (takD ts)), some (.o (mdictF (lkF ts))), none, none] [3]).set 3 (some (.d (natD l)))) [4]).set 4 (some (.d (natD p)))) rfl (e_var (i := 4) rfl)
  rw [lkF_is] at this
  exact this
theorem ok_lacking_in (T : Tx K mg) : FnOk P w K mg base CX0 2 T.lacking_in.f T.lacking_in.fd P_lacking_in sp_lacking_in :=
  T.lacking_in.F.ok (k := 1) sc_lacking_in (len_I fun _ => rfl) fun cdv A outer s H vs Q E hr h => ⟨_, dv_lacking_in T (ok_holders_in T) (ok_asked_in T) hr, fn_I (N := N_lacking_in) run_lacking_in vs H Q E h⟩
end
end Lw
set_option Elab.async false
set_option linter.all false
set_option maxRecDepth 100000
set_option maxHeartbeats 1000000
namespace Lw
open PySem PySem.Spec PyProof.Rows L2
section
variable {P : Program} {w : World} {K : PySem.W.Frag} {mg : Str → Option Value} {base : Heap}
/-! ### lists of numbers compared -/
theorem nats_plain : ∀ l : List Nat, plains (natsD l) = true
  | [] => rfl
  | _ :: l => by
    show plains (natD _ :: natsD l) = true
    rw [plains, nats_plain l]
    rfl
theorem nats_lay : ∀ l : List Nat, PyData.canLayAll0 (natsD l) = true
  | [] => rfl
  | a :: l => by
    show PyData.canLayAll0 (natD a :: natsD l) = true
    rw [PyData.canLayAll0, nats_lay l]
    rfl
theorem nats_depth : ∀ l : List Nat, PyData.depthAll (natsD l) = 0
  | [] => rfl
  | a :: l => by
    show PyData.depthAll (natD a :: natsD l) = 0
    rw [PyData.depthAll, nats_depth l]
    rfl
theorem okD_list {xs : List D} (h1 : plains xs = true) (h2 : PyData.canLayAll0 xs = true) (h3 : PyData.depthAll xs = 0) : okD (.list xs) = true ∧ okD (.tuple xs) = true := by
  have a1 : plain (.list xs) = true := by rw [plain]; exact h1
  have a2 : plain (.tuple xs) = true := by rw [plain]; exact h1
  have b1 : SeqAt.shaped (.list xs) = true := by
    unfold SeqAt.shaped
    rw [PyData.canLay0, h2, PyData.depth, h3]
    rfl
  have b2 : SeqAt.shaped (.tuple xs) = true := by
    unfold SeqAt.shaped
    rw [PyData.canLay0, h2, PyData.depth, h3]
    rfl
  unfold okD
  rw [a1, a2, b1, b2]
  exact ⟨rfl, rfl⟩
theorem okD_natsL (l : List Nat) : okD (natsL l) = true := (okD_list (nats_plain l) (nats_lay l) (nats_depth l)).1
theorem okD_natsT (l : List Nat) : okD (natsT l) = true := (okD_list (nats_plain l) (nats_lay l) (nats_depth l)).2
theorem eqvAll_nats : ∀ a b : List Nat, PyData.eqvAll (natsD a) (natsD b) = decide (a = b)
  | [], [] => rfl
  | [], _ :: _ => by
    rw [decide_eq_false (by simp)]
    rfl
  | _ :: _, [] => by
    rw [decide_eq_false (by simp)]
    rfl
  | x :: a, y :: b => by
    show PyData.eqvAll (natD x :: natsD a) (natD y :: natsD b) = _
    rw [PyData.eqvAll, eqv_nat, eqvAll_nats a b]
    by_cases h1 : x = y
    · by_cases h2 : a = b
      · simp [h1, h2]
      · simp [h1, h2]
    · simp [h1]
theorem eqv_natsL (a b : List Nat) : PyData.eqv (natsL a) (natsL b) = decide (a = b) := by
  unfold natsL
  rw [PyData.eqv, eqvAll_nats]
theorem o_eqL {a b : List Nat} : OpD (rEqD K) (natsL a) (natsL b) (.bool (decide (a = b))) := by
  have := o_eq (K := K) (okD_natsL a) (okD_natsL b)
  rw [eqv_natsL] at this
  exact this
theorem o_neL {a b : List Nat} : OpD (rNeD K) (natsL a) (natsL b) (.bool (!decide (a = b))) := by
  have := o_ne (K := K) (okD_natsL a) (okD_natsL b)
  rw [eqv_natsL] at this
  exact this
theorem o_inN {k : Nat} {l : List Nat} : OpD (rIn K false) (natD k) (natsL l) (.bool (decide (k ∈ l))) := by
  have := o_inL (K := K) (k := (k : Int)) (ns := l.map fun n : Nat => (n : Int))
  rw [← natsD_ints] at this
  rw [show decide ((k : Int) ∈ l.map fun n : Nat => (n : Int)) = decide (k ∈ l) from decide_eq_decide.mpr mem_cast] at this
  exact this
theorem o_niN {k : Nat} {l : List Nat} : OpD (rIn K true) (natD k) (natsL l) (.bool (!decide (k ∈ l))) := by
  have := o_niL (K := K) (k := (k : Int)) (ns := l.map fun n : Nat => (n : Int))
  rw [← natsD_ints] at this
  rw [show decide ((k : Int) ∈ l.map fun n : Nat => (n : Int)) = decide (k ∈ l) from decide_eq_decide.mpr mem_cast] at this
  exact this
/-! ### order_in -/
def ordF (gs : List (Nat × Nat)) (ts : List (Option Nat)) : Option (List Nat) := orderIn (arrB gs ts) ts.length (List.range ts.length) []
def ordD : Option (List Nat) → D
  | .none => .none
  | .some o => natsT o
theorem orderIn_nil (arr : Nat → Nat → Bool) (m : Nat) (found : List Nat) : orderIn arr m [] found = some found := by
  cases m <;> simp [orderIn]
theorem orderIn_step {arr : Nat → Nat → Bool} {left found : List Nat} (h : left ≠ []) : orderIn arr left.length left found = match freeF arr left with
    | [] => none
    | g :: _ => orderIn arr (left.length - 1) (left.erase g) (found ++ [g]) := by
  cases left with
  | nil => exact absurd rfl h
  | cons a l =>
    show orderIn arr (l.length + 1) (a :: l) found = _
    rw [orderIn, if_neg h]
    rfl
theorem erase_idx : ∀ {l : List Nat} {k : Nat}, l.eraseIdx (l.idxOf k) = l.erase k
  | [], _ => rfl
  | a :: l, k => by
    by_cases h : a = k
    · subst h
      rw [List.idxOf_cons_self, List.erase_cons_head]
      rfl
    · have e : (a :: l).idxOf k = l.idxOf k + 1 := by
        have e2 : (a == k) = false := by simpa using h
        rw [List.idxOf_cons, e2]
        rfl
      rw [e, List.erase_cons_tail (by simpa using h), List.eraseIdx_cons_succ, erase_idx]
/-- who is not barred -/
theorem free_list {arr : Nat → Nat → Bool} {as : List (Nat × Nat)} {left : List Nat} (h : ∀ f l, (f, l) ∈ as ↔ arr f l = true) :
    (left.filter fun g => !decide (g ∈ (as.filter fun p => decide (p.1 ∈ left)).map Prod.snd)) = freeF arr left := by
  unfold freeF
  refine List.filter_congr fun g _ => ?_
  congr 1
  rw [Bool.eq_iff_iff, decide_eq_true_iff, List.any_eq_true, List.mem_map]
  constructor
  · rintro ⟨⟨f, l⟩, hm, e⟩
    have e : l = g := e
    subst e
    obtain ⟨h1, h2⟩ := List.mem_filter.mp hm
    exact ⟨f, of_decide_eq_true h2, (h f l).mp h1⟩
  · rintro ⟨f, hf, ha⟩
    exact ⟨(f, g), List.mem_filter.mpr ⟨(h f g).mpr ha, decide_eq_true hf⟩, rfl⟩
theorem snd_nats (as : List (Nat × Nat)) (b : Nat × Nat → Bool) : ((as.filter b).map fun p => natD p.2) = natsD ((as.filter b).map Prod.snd) := by
  unfold natsD
  rw [List.map_map]
  rfl
theorem p_arrows {ρ : Rho} {ta tb : TE} {m : Nat} {gs : List (Nat × Nat)} {ts : List (Option Nat)} (h1 : EvE ta ρ (webD m gs)) (h2 : EvE tb ρ (takD ts)) (hv : TakV gs ts) {E : XK} :
    EvP (tCall sp_arrows_in [] E (tCons ta (tCons tb tNil))) ρ fun r => ∃ as : List (Nat × Nat), r = .list (as.map pairD) ∧ ArrR gs ts as := p_call (⟨m, gs, ts⟩ : TakI) (s_cons h1 h2.one) hv
theorem e_lacking {ρ : Rho} {ta tb : TE} {m : Nat} {gs : List (Nat × Nat)} {ts : List (Option Nat)} (h1 : EvE ta ρ (webD m gs)) (h2 : EvE tb ρ (takD ts)) (hv : TakV gs ts) {E : XK} :
    EvE (tCall sp_lacking_in [] E (tCons ta (tCons tb tNil))) ρ (natsL (lackF gs ts)) := e_call (⟨m, gs, ts⟩ : TakI) (s_cons h1 h2.one) hv fun r e => e
def sp_order_in : Sp := spI (fun i : TakI => TakV i.gs i.ts) (fun i => [webD i.m i.gs, takD i.ts]) fun i r => r = ordD (ordF i.gs i.ts)
theorem e_lst0 {ρ : Rho} : EvE (tLst tNil) ρ (natsL []) := e_lst s_nil (by decide)
theorem run_order_in (i : TakI) (h : TakV i.gs i.ts) : RunS (t_order_in K sp_arrows_in) (startR 10 [webD i.m i.gs, takD i.ts]) { nx := fun _ => PyData.none = ordD (ordF i.gs i.ts), rt := fun _ r => r = ordD (ordF i.gs i.ts) } := by
  obtain ⟨m, gs, ts⟩ := i
  have h : TakV gs ts := h
  have hl : ts.length = gs.length := h.V.len
  have hf : gs.length ≤ 20 := h.few
  refine r_seq (r_tup3 (k_z (z_of ((p_arrows (m := m) (e_var rfl) (e_var rfl) h).imp fun r hr => k_f (w := mlist []) (f_lst s_nil (by decide)) (k_f (f_lstRg (e_lenT (ts := ts) (e_var rfl)) (by omega)) (k_nil ?_))))))
  obtain ⟨as, rfl, has, hal⟩ := hr
  refine ⟨_, _, _, rfl, Nat.le_of_ble_eq_true rfl, Nat.le_of_ble_eq_true rfl, Nat.le_of_ble_eq_true rfl, ?_⟩
  refine r_seq (r_while (fun q ρ' => ∃ (left found : List Nat) (b5 b6 : Option Sl), q = left.length ∧ left.length + found.length ≤ 20 ∧ orderIn (arrB gs ts) left.length left found = ordF gs ts ∧
    ρ' = [some (.d (webD m gs)), some (.d (takD ts)), some (.d (.list (as.map pairD))), some (.o (mlist (natsD found))), some (.o (mlist (natsD left))), b5, b6, none, none, none]) ts.length ⟨List.range ts.length, [], none, none, by rw [List.length_range], by rw [List.length_range]; simp; omega, by rw [List.length_range]; rfl, rfl⟩ ?_)
  rintro q ρ1 ⟨left, found, b5, b6, rfl, hlf, hor, rfl⟩
  refine ⟨!decide (left = []), t_test (e_op (b_var rfl) e_lst0.b o_neL), fun hb => ?_, fun hb => ?_⟩
  · have hne : left ≠ [] := by simpa using hb
    rw [orderIn_step hne] at hor
    have hlc := f_lc (ρ := [some (.d (webD m gs)), some (.d (takD ts)), some (.d (.list (as.map pairD))), some (.o (mlist (natsD found))), some (.o (mlist (natsD left))), b5, b6, none, none, none]) (wi := iSeq K (tVar 2)) (g := gTup K 2 (gCons (gName 7) (gCons (gName 8) gNil))) (vs := [7, 8]) (tt := tTest (tOp (rIn K false) (tVar 7) (tVar 4))) (te := tVar 8)
      as pairD (fun p => decide (p.1 ∈ left)) (fun p => natD p.2) (i_seq (e_var rfl) (.inl rfl)).i (fun y hy => bndc_pair (by simp) (by simp) ⟨t_test (e_op (e_var (x := natD y.1) rfl).b (b_var rfl) o_inN), fun _ => e_var rfl⟩) (by omega)
    rw [snd_nats] at hlc
    refine r_seq (r_asg hlc.e ?_)
    have hl2 := f_lc (ρ := [some (.d (webD m gs)), some (.d (takD ts)), some (.d (.list (as.map pairD))), some (.o (mlist (natsD found))), some (.o (mlist (natsD left))), some (.d (natsL ((as.filter fun p => decide (p.1 ∈ left)).map Prod.snd))), b6, none, none, none]) (wi := iSeq K (tVar 4)) (g := gName 9) (vs := [9]) (tt := tTest (tOp (rIn K true) (tVar 9) (tVar 5))) (te := tVar 9)
      left natD (fun g => !decide (g ∈ (as.filter fun p => decide (p.1 ∈ left)).map Prod.snd)) natD (i_seqB (b_var rfl)) (fun y hy => bndc_name (by simp) ⟨t_test (e_op (e_var (x := natD y) rfl).b (e_var rfl).b o_niN), fun _ => e_var rfl⟩) (by omega)
    rw [free_list has] at hl2
    refine r_seq (r_asg (x := natsL (freeF (arrB gs ts) left)) hl2.e ?_)
    refine r_seq (r_if (t_test (e_op (e_var (x := natsL (freeF (arrB gs ts) left)) rfl).b e_lst0.b o_eqL)) (fun e => ?_) fun e => r_next ?_)
    · have e := of_decide_eq_true e
      rw [e] at hor
      refine r_ret e_non ?_
      show PyData.none = ordD (ordF gs ts)
      rw [← hor]
      rfl
    · have e := of_decide_eq_false e
      cases hfr : freeF (arrB gs ts) left with
      | nil => exact absurd hfr e
      | cons g rest =>
        rw [hfr] at hor
        have hg : g ∈ left := (mem_free.mp (show g ∈ freeF (arrB gs ts) left by rw [hfr]; exact List.mem_cons_self)).1
        have v6 : ∀ {s3 s4 : Option Sl}, EvE (tOp (rIx K) (tVar 6) (tC (.int 0))) [some (.d (webD m gs)), some (.d (takD ts)), some (.d (.list (as.map pairD))), s3, s4, some (.d (natsL ((as.filter fun p => decide (p.1 ∈ left)).map Prod.snd))), some (.d (natsL (g :: rest))), none, none, none] (natD g) := fun {s3 s4} => e_op (e_var (x := natsL (g :: rest)) rfl).b (e_int (i := 0)).b (o_ixL (i := 0) rfl)
        refine r_seq (r_app (ds := natsD found) rfl v6 (by rw [natsD_len]; omega) ?_)
        refine r_rem (l := left) rfl v6 hg ?_
        rw [erase_idx]
        have hle := List.length_erase_of_mem hg
        have hpos := List.length_pos_of_mem hg
        refine ⟨(left.erase g).length, by omega, left.erase g, found ++ [g], some (.d (natsL ((as.filter fun p => decide (p.1 ∈ left)).map Prod.snd))), some (.d (natsL (g :: rest))), rfl, by rw [List.length_append, List.length_singleton]; omega, by rw [hle]; exact hor, ?_⟩
        have ef : natsD found ++ [natD g] = natsD (found ++ [g]) := by
          unfold natsD
          rw [List.map_append]
          rfl
        rw [ef]
        rfl
  · have hne : left = [] := by simpa using hb
    subst hne
    rw [orderIn_nil] at hor
    refine r_ret (e_cb (b_var (xs := natsD found) rfl).one c_tupL) ?_
    show natsT found = ordD (ordF gs ts)
    rw [← hor]
    rfl
theorem ok_order_in (T : Tx K mg) : FnOk P w K mg base CX0 3 T.order_in.f T.order_in.fd P_order_in sp_order_in :=
  T.order_in.F.ok (k := 2) sc_order_in (len_I fun _ => rfl) fun cdv A outer s H vs Q E hr h => ⟨_, dv_order_in T (ok_arrows_in T) hr, fn_I (N := N_order_in) run_order_in vs H Q E h⟩
/-! ### is_outcome_in -/
def outB (gs : List (Nat × Nat)) (ts : List (Option Nat)) : Bool := decide (lackF gs ts = []) && (ordF gs ts).isSome
theorem isNon_ord (o : Option (List Nat)) : isNon (ordD o) = !o.isSome := by cases o <;> rfl
theorem e_order {ρ : Rho} {ta tb : TE} {m : Nat} {gs : List (Nat × Nat)} {ts : List (Option Nat)} (h1 : EvE ta ρ (webD m gs)) (h2 : EvE tb ρ (takD ts)) (hv : TakV gs ts) {E : XK} :
    EvE (tCall sp_order_in [] E (tCons ta (tCons tb tNil))) ρ (ordD (ordF gs ts)) := e_call (⟨m, gs, ts⟩ : TakI) (s_cons h1 h2.one) hv fun r e => e
def sp_is_outcome_in : Sp := spI (fun i : TakI => TakV i.gs i.ts) (fun i => [webD i.m i.gs, takD i.ts]) fun i r => r = .bool (outB i.gs i.ts)
theorem run_is_outcome_in (i : TakI) (h : TakV i.gs i.ts) : RunS (t_is_outcome_in K sp_lacking_in sp_order_in) (startR 2 [webD i.m i.gs, takD i.ts]) { nx := fun _ => PyData.none = .bool (outB i.gs i.ts), rt := fun _ r => r = .bool (outB i.gs i.ts) } := by
  obtain ⟨m, gs, ts⟩ := i
  refine r_ret (x := .bool (outB gs ts)) (e_and2 (a := decide (lackF gs ts = [])) (b := (ordF gs ts).isSome) (e_op (e_lacking (m := m) (e_var rfl) (e_var rfl) h).b e_lst0.b o_eqL) fun _ => ?_) rfl
  have := e_op (e_order (m := m) (gs := gs) (ts := ts) (E := E0) (e_var (ρ := startR 2 [webD m gs, takD ts]) (i := 0) rfl) (e_var (i := 1) rfl) h).b e_non.b o_notN
  rw [isNon_ord, Bool.not_not] at this
  exact this
theorem ok_is_outcome_in (T : Tx K mg) : FnOk P w K mg base CX0 4 T.is_outcome_in.f T.is_outcome_in.fd P_is_outcome_in sp_is_outcome_in :=
  T.is_outcome_in.F.ok (k := 3) sc_is_outcome_in (len_I fun _ => rfl) fun cdv A outer s H vs Q E hr h => ⟨_, dv_is_outcome_in T ((ok_lacking_in T).mono (by decide)) (ok_order_in T) hr, fn_I (N := N_is_outcome_in) run_is_outcome_in vs H Q E h⟩
/-! ### is_along -/
def alongB (gs : List (Nat × Nat)) (ts : List (Option Nat)) (o : List Nat) : Bool := (List.range ts.length).all fun f => (List.range ts.length).all fun l => !(arrB gs ts f l) || decide (o.idxOf f < o.idxOf l)
theorem arr_lt {gs : List (Nat × Nat)} {ts : List (Option Nat)} {f l : Nat} (h : arrB gs ts f l = true) : f < ts.length ∧ l < ts.length := by
  obtain ⟨h1, p, _, h2⟩ := arrB_iff.mp h
  exact ⟨has_lt h2, h1⟩
theorem alongB_iff {gs : List (Nat × Nat)} {ts : List (Option Nat)} {o : List Nat} : alongB gs ts o = true ↔ ∀ f l, arrB gs ts f l = true → o.idxOf f < o.idxOf l := by
  unfold alongB
  rw [List.all_eq_true]
  constructor
  · intro h f l ha
    have h1 := h f (List.mem_range.mpr (arr_lt ha).1)
    rw [List.all_eq_true] at h1
    have h2 := h1 l (List.mem_range.mpr (arr_lt ha).2)
    rw [ha] at h2
    simpa using h2
  · intro h f _
    rw [List.all_eq_true]
    intro l _
    cases ha : arrB gs ts f l with
    | false => rfl
    | true => simpa using h f l ha
structure AloI where
  m : Nat
  gs : List (Nat × Nat)
  ts : List (Option Nat)
  o : List Nat
def AloI.ok (i : AloI) : Prop := TakV i.gs i.ts ∧ Ord i.gs.length i.o
def aloB (i : AloI) : Bool := decide (lackF i.gs i.ts = []) && alongB i.gs i.ts i.o
def sp_is_along : Sp := spI AloI.ok (fun i => [webD i.m i.gs, takD i.ts, natsT i.o]) fun i r => r = .bool (aloB i)
theorem run_is_along (i : AloI) (h : i.ok) : RunS (t_is_along K sp_is_order_in sp_lacking_in sp_arrows_in) (startR 5 [webD i.m i.gs, takD i.ts, natsT i.o]) { nx := fun _ => PyData.none = .bool (aloB i), rt := fun _ r => r = .bool (aloB i) } := by
  obtain ⟨m, gs, ts, o⟩ := i
  obtain ⟨hv, ho⟩ := h
  have hv : TakV gs ts := hv
  have ho : Ord gs.length o := ho
  have hl : ts.length = gs.length := hv.V.len
  have hf : gs.length ≤ 20 := hv.few
  refine r_seq (r_if (b := !decide (lackF gs ts = [])) (t_or (a := false) (t_not (a := true) (t_B (e_call (z := .bool true) (⟨m, gs, o⟩ : RowI) (s_cons (e_var rfl) (e_var rfl).one) ⟨ho, hf⟩ fun r e => e))) fun _ => t_test (e_op (e_lacking (m := m) (e_var rfl) (e_var rfl) hv).b e_lst0.b o_neL)) (fun e => ?_) fun e => r_next ?_)
  · refine r_ret e_bl ?_
    have e : decide (lackF gs ts = []) = false := by simpa using e
    show PyData.bool false = .bool (decide (lackF gs ts = []) && alongB gs ts o)
    rw [e]
    rfl
  · have e : decide (lackF gs ts = []) = true := by simpa using e
    have hp := f_lcP (ρ := startR 5 [webD m gs, takD ts, natsT o]) (te := tOp rLtI (tIdx (tVar 2) (tVar 3)) (tIdx (tVar 2) (tVar 4))) (tt := tYes) (g := gTup K 2 (gCons (gName 3) (gCons (gName 4) gNil))) (vs := [3, 4]) (Φ := fun as => ArrR gs ts as) pairD (fun _ => true) (fun p => .bool (decide (((o.idxOf p.1 : Nat) : Int) < ((o.idxOf p.2 : Nat) : Int))))
      (i_seqP (K := K) ((p_arrows (m := m) (E := E0) (e_var (i := 0) rfl) (e_var (i := 1) rfl) hv).imp fun r ⟨as, e, h⟩ => ⟨_, e, as, rfl, h⟩)) (fun as p ha hm => bndc_pair (by simp) (by simp) ⟨t_yes, fun _ => ?_⟩) fun as ha => by have := ha.2; omega
    · refine r_retP (p_cb1 hp fun x hx => ?_)
      obtain ⟨as, ha, rfl⟩ := hx
      have e1 : (as.filter fun _ => true) = as := List.filter_eq_self.mpr fun _ _ => rfl
      have e2 : (as.map fun p : Nat × Nat => PyData.bool (decide (((o.idxOf p.1 : Nat) : Int) < ((o.idxOf p.2 : Nat) : Int)))) = (as.map fun p => decide (((o.idxOf p.1 : Nat) : Int) < ((o.idxOf p.2 : Nat) : Int))).map .bool := by rw [List.map_map]; rfl
      rw [e1, e2]
      refine ⟨_, c_all (K := K), ?_⟩
      show PyData.bool _ = .bool (decide (lackF gs ts = []) && alongB gs ts o)
      rw [e, Bool.true_and]
      congr 1
      rw [Bool.eq_iff_iff, alongB_iff, List.all_map, List.all_eq_true]
      constructor
      · intro h f l hfl
        have := h (f, l) ((ha.1 f l).mpr hfl)
        have := of_decide_eq_true this
        have : ((o.idxOf f : Nat) : Int) < ((o.idxOf l : Nat) : Int) := this
        omega
      · rintro h ⟨f, l⟩ hm
        have := h f l ((ha.1 f l).mp hm)
        exact decide_eq_true (by show ((o.idxOf f : Nat) : Int) < ((o.idxOf l : Nat) : Int); omega)
    · obtain ⟨f, l⟩ := p
      have hlt := arr_lt ((ha.1 f l).mp hm)
      exact e_op (e_idx (l := o) (k := f) (e_var rfl) (e_var rfl) (ho.mem.mpr (by omega))).b (e_idx (l := o) (k := l) (e_var rfl) (e_var rfl) (ho.mem.mpr (by omega))).b o_lt
theorem ok_is_along (T : Tx K mg) : FnOk P w K mg base CX0 5 T.is_along.f T.is_along.fd P_is_along sp_is_along :=
  T.is_along.F.ok (k := 4) sc_is_along (len_I fun _ => rfl) fun cdv A outer s H vs Q E hr h => ⟨_, dv_is_along T (ok_is_order_in T) ((ok_lacking_in T).mono (by decide)) ((ok_arrows_in T).mono (by decide)) hr, fn_I (N := N_is_along) run_is_along vs H Q E h⟩
end
end Lw
set_option Elab.async false
set_option linter.all false
set_option maxRecDepth 100000
set_option maxHeartbeats 1000000
namespace Lw
open PySem PySem.Spec PyProof.Rows L2
/-! ### lists that stand at a told address -/
def mlistA (a : Addr) (ds : List D) : Own := ⟨fun G c o => c = a ∧ ∃ xs, o = .lst xs ∧ RpL G xs ds, fun e ⟨h0, xs, h, r⟩ => ⟨h0, xs, h, r.mono e⟩, fun ⟨_, _, h, _⟩ => by rw [h]; exact isT_lst⟩
/-- a source of draws, new -/
def tinU (b : Nat) : Own := ⟨fun G c o => (tin c b).P G c o, fun _ h => h, fun h => (tin _ b).nt h⟩
section
variable {K : PySem.W.Frag} {ρ : Rho} {te ta tb tc tl : TE} {tt tu : TT} {ts tr : TA} {d x y z : D} {xs ys ds : List D} {w : Own} {t u : TS} {P : De}
theorem b_varA {i : Nat} {a : Addr} (h : ρ[i]? = some (some (.o (mlistA a xs)))) : EvB (tVar i) ρ (.list xs) := fun σ H G k Q q => by
  obtain ⟨c, o, h1, h2, h3, h0, vs, rfl, r⟩ := k.o h
  exact ⟨.ref c, h1, q _ H G (Px.refl k.sub) (.inr ⟨c, vs, xs, rfl, rfl, h2, r⟩)⟩
/-- what a slot owns is looked at in another way -/
theorem r_view {i : Nat} {w : Own} (hi : ρ[i]? = some (some (.o w))) (h : ∀ (G : Hp) (a : Addr) (o : HO), w.P G a o → ∃ w' : Own, w'.P G a o ∧ RunS t (ρ.set i (some (.o w'))) P) : RunS t ρ P := fun σ H G k D q1 q2 q3 q4 => by
  obtain ⟨a, o, h1, h2, h3, h4⟩ := k.o hi
  obtain ⟨w', hw, hr⟩ := h G a o h4
  have eu : upd H a o = H := by
    funext b
    by_cases z : b = a
    · rw [z, upd_same, h2]
    · rw [upd_ne z]
  have k2 := k.chg (o := o) (w' := w') hi h1 h3 hw
  have t2 := te_chg (o := o) (w' := w') k hi h1
  rw [eu] at k2 t2
  exact hr.after t2 k2 q1 q2 q3 q4
theorem r_tinA {i : Nat} {a : Addr} {b : Nat} (hi : ρ[i]? = some (some (.o (tin a b)))) (h : ∀ p q r : Int, 0 ≤ p → 0 ≤ q → 0 ≤ r → r + b ≤ 1000000 → RunS t (ρ.set i (some (.o (mlistA a [.int p, .int q, .int r])))) P) : RunS t ρ P :=
  r_view (w := tin a b) hi fun G c o ⟨h0, p, q, r, e, hp, hq, hr, hb⟩ => ⟨mlistA a [.int p, .int q, .int r], ⟨h0, _, e, .cons (.int p) (.cons (.int q) (.cons (.int r) .nil))⟩, h p q r hp hq hr hb⟩
theorem r_Atin {i : Nat} {a : Addr} {b : Nat} {p q r : Int} (hi : ρ[i]? = some (some (.o (mlistA a [.int p, .int q, .int r])))) (hp : 0 ≤ p) (hq : 0 ≤ q) (hr : 0 ≤ r) (hb : r + b ≤ 1000000) (h : RunS t (ρ.set i (some (.o (tin a b)))) P) : RunS t ρ P :=
  r_view (w := mlistA a [.int p, .int q, .int r]) hi fun G c o ⟨h0, vs, e, rv⟩ => ⟨tin a b, ⟨h0, p, q, r, by
    cases rv with
    | cons r1 rv =>
      cases rv with
      | cons r2 rv =>
        cases rv with
        | cons r3 rv =>
          cases rv
          rw [e, r1.intV, r2.intV, r3.intV], hp, hq, hr, hb⟩, h⟩
theorem r_tinU {i : Nat} {b : Nat} (hi : ρ[i]? = some (some (.o (tinU b)))) (h : ∀ a : Addr, RunS t (ρ.set i (some (.o (tin a b)))) P) : RunS t ρ P :=
  r_view (w := tinU b) hi fun G c o hw => ⟨tin c b, hw, h c⟩
theorem r_setLA {i : Nat} {n : Nat} {a : Addr} (hi : ρ[i]? = some (some (.o (mlistA a ds)))) (h : EvE te ρ x) (hn : EvE ta ρ (.int (n : Int))) (hl : n < ds.length) (p : P.nx (ρ.set i (some (.o (mlistA a (ds.set n x)))))) : RunS (tAsg te (gSub (tVar i) ta rSetL)) ρ P := fun σ H G k D q1 q2 q3 q4 =>
  h σ H G k _ fun v H1 G1 x1 r1 => by
    have k1 := k.px x1
    obtain ⟨c, o, h1, h2, h3, h0, vs, rfl, r⟩ := k1.o hi
    refine ⟨.ref c, h1, hn σ H1 G1 k1 _ fun u H2 G2 x2 r2 => ?_⟩
    have k2 := k1.px x2
    have g3 : G2 c = Option.none := by
      obtain ⟨a', _, e1, _, e3, _⟩ := k2.o hi
      rw [h1] at e1
      rw [V.ref.inj (Option.some.inj (Option.some.inj e1))]
      exact e3
    refine ⟨c, vs, (n : Int), n, rfl, r2.intV, x2.h _ _ h2, ?_, ?_⟩
    · have : n < vs.length := by rw [r.len]; exact hl
      unfold ixN
      rw [if_pos (by omega), if_pos (by omega)]
      simp
    · exact q1 σ _ _ G2 (((Te.of (x1.trans x2)).trans (te_chg k2 hi h1)).tr) (k2.chg (w' := mlistA a (ds.set n x)) hi h1 g3 ⟨h0, _, rfl, (r.mono x2.g).set n (r1.mono x2.g)⟩) p
/-- the first of the two statements of a def that makes something new -/
theorem fn_O1 {ι : Type} {pre : ι → Prop} {args : ι → List D} {own : ι → Own} {N : List Str} {j : Nat} {tf : TE} (v : ι → D) (h : ∀ i, pre i → EvE te (startR N.length (args i)) (v i) ∧ EvF tf ((startR N.length (args i)).set j (some (.d (v i)))) (own i)) :
    ∀ vs H Q E, spO pre args own vs H Q E → tSeq (tAsg te (gName j)) (tRet tf) { nx := fun _ H' => Q .non H', rt := Q } (start N vs) H := fun vs H Q E ⟨G, i, s, r, hp, q⟩ =>
  (h i hp).1 (start N vs) H G (ok_start s r) _ fun v' H1 G1 x1 r1 => (h i hp).2 _ H1 G1 (((ok_start s r).px x1).setD r1) Q fun a o H' G' x n ho hg hw => q a o H' G' (x1.trans x) (x1.h.free n) ho hg hw
/-- x or y of two new lists -/
theorem f_orT (h1 : EvF ta ρ (mlist xs)) (h2 : xs = [] → EvF tb ρ (mlist ys)) : EvF (tOrT K ta tb) ρ (mlist (if xs = [] then ys else xs)) := fun σ H G k Q q =>
  h1 σ H G k _ fun a o H1 G1 x1 n1 ho hg ⟨vs, e, r⟩ => by
    subst e
    refine ⟨!vs.isEmpty, .inl ⟨vs, SqL.of ho, rfl⟩, ?_⟩
    cases r with
    | nil =>
      rw [if_pos rfl] at q
      exact h2 rfl σ H1 G1 (k.px x1) Q fun a2 o2 H2 G2 x2 n2 ho2 hg2 hw2 => q a2 o2 H2 G2 (x1.trans x2) (x1.h.free n2) ho2 hg2 hw2
    | cons hv r =>
      rw [if_neg (by simp)] at q
      exact q a _ H1 G1 x1 n1 ho hg ⟨_, rfl, .cons hv r⟩
/-- sorted(a dict by pairs) -/
theorem p_sortDT {i : Nat} {ps : List (Nat × Nat)} (hi : ρ[i]? = some (some (.o (mpairs ps)))) (h64 : ps.length < 64) (hb : ∀ p, p ∈ ps → p.1 < 1000 ∧ p.2 < 1000) : EvP (tCB (rSortDT K) (tCons (tVar i) tNil)) ρ fun r => ∃ bs : List (Nat × Nat), bs.Perm ps ∧ r = .list (bs.map pairD) := fun σ H G k Q q => by
  obtain ⟨a, o, h1, h2, h3, kvs, rfl, hk⟩ := k.o hi
  refine ⟨.ref a, h1, a, kvs, ps.map (fun p => [(p.1 : Int), (p.2 : Int)]), 2, 1000, rfl, h2, by rw [hk, List.map_map]; rfl, by rw [List.length_map]; exact h64, by decide, fun z hz => ?_, fun bs ys p ik pm hn => ?_⟩
  · obtain ⟨p, hp, rfl⟩ := List.mem_map.mp hz
    have hb := hb p hp
    exact ⟨rfl, fun z hz => by
      rcases List.mem_cons.mp hz with e | hz
      · subst e; omega
      · rcases List.mem_cons.mp hz with e | hz
        · subst e; omega
        · simp at hz⟩
  · -- the keys go stable
    have hmem : ∀ b, b ∈ bs → ∃ p : Nat × Nat, H b = some (.tup [.int (p.1 : Int), .int (p.2 : Int)]) := fun b hb => by
      obtain ⟨j, hj, ej⟩ := List.getElem_of_mem hb
      have hjk : j < kvs.length := by
        have e : kvs.length = bs.length := Paired.length ik
        omega
      obtain ⟨b', hb', e'⟩ := paired_get ik (List.getElem?_eq_getElem hjk)
      have eb : b' = b := by
        rw [List.getElem?_eq_getElem hj, ej] at hb'
        exact (Option.some.inj hb').symm
      subst eb
      have hm : kvs[j].1 ∈ kvs.map (·.1) := List.mem_map.mpr ⟨_, List.getElem_mem hjk, rfl⟩
      rw [hk] at hm
      obtain ⟨p, _, ep⟩ := List.mem_map.mp hm
      refine ⟨p, ?_⟩
      rw [← ep] at e'
      exact e'
    have sG : Same G fun b => if b ∈ bs then H b else G b := fun b u e => by
      show (if b ∈ bs then H b else G b) = some u
      split
      · exact k.sub _ _ e
      · exact e
    have sH : Same (fun b => if b ∈ bs then H b else G b) H := fun b u e => by
      have e : (if b ∈ bs then H b else G b) = some u := e
      split at e
      · exact e
      · exact k.sub _ _ e
    have X : Px H G H fun b => if b ∈ bs then H b else G b := ⟨Same.refl H, sG, sH, fun b e n => .inr (by
      by_cases hb : b ∈ bs
      · obtain ⟨p, hp⟩ := hmem b hb
        exact ⟨_, by rw [if_pos hb]; exact hp, .inl ⟨_, rfl⟩⟩
      · rw [if_neg hb] at n
        exact absurd e n)⟩
    have rb : RpL (fun b => if b ∈ bs then H b else G b) (bs.map V.ref) (ps.map pairD) := by
      have key : ∀ {kvs : List (List Key × V)} {cs : List Addr} {ps : List (Nat × Nat)}, IsKeys H kvs cs → kvs.map (·.1) = ps.map (fun p => [Sum.inl (p.1 : Int), Sum.inl (p.2 : Int)]) → (∀ c, c ∈ cs → c ∈ bs) → RpL (fun b => if b ∈ bs then H b else G b) (cs.map V.ref) (ps.map pairD) := by
        intro kvs cs ps ik
        induction ik generalizing ps with
        | nil =>
          intro e _
          cases ps with
          | nil => exact .nil
          | cons p ps => cases e
        | @cons kv c kvs cs hkc _ ih =>
          intro e hc
          cases ps with
          | nil => cases e
          | cons p ps =>
            have e1 : kv.1 = [Sum.inl (p.1 : Int), Sum.inl (p.2 : Int)] := (List.cons.inj e).1
            refine .cons ?_ (ih (List.cons.inj e).2 fun c hm => hc c (List.mem_cons_of_mem _ hm))
            rw [e1] at hkc
            refine .pr (v := .int (p.1 : Int)) (w := .int (p.2 : Int)) ?_ (.int _) (.int _)
            rw [if_pos (hc c List.mem_cons_self)]
            exact hkc
      exact key ik hk fun _ h => h
    obtain ⟨cs, h4, h5⟩ := rp_pairs_back pm rb
    exact q _ _ _ _ (X.trans (Px.new2 sH hn)) (.lst upd_same (h5.mono (same_new (sH.free hn)))) ⟨cs, h4, rfl⟩
end
section
variable {P : Program} {w : World} {K : PySem.W.Frag} {mg : Str → Option Value} {base : Heap}
/-! ### _law_take -/
theorem mod_nat {i : Int} {n : Nat} (hn : 1 ≤ n) : ∃ v, v < n ∧ (PyData.int (i % (n : Int))) = natD v := by
  have h1 : 0 ≤ i % (n : Int) := Int.emod_nonneg _ (by omega)
  have h2 : i % (n : Int) < (n : Int) := Int.emod_lt_of_pos _ (by omega)
  refine ⟨(i % (n : Int)).toNat, by omega, ?_⟩
  unfold natD
  congr 1
  omega
def sp_take : Sp := spT (fun n : Nat => 1 ≤ n ∧ n ≤ 100000) (fun _ => 1) (fun n => [natD n]) fun n r => ∃ v, v < n ∧ r = natD v
theorem e_ixA {ρ : Rho} {a : Addr} {xs : List D} {i n : Nat} {z : D} (h : ρ[i]? = some (some (.o (mlistA a xs)))) (hz : xs[n]? = some z) : EvE (tOp (rIx K) (tVar i) (tC (.int (n : Int)))) ρ z := e_op (b_varA h) (e_int (i := (n : Int))).b (o_ixL hz)
theorem e_intc {ρ : Rho} {te : TE} {i : Int} (h : EvE te ρ (.int i)) : EvE (tCB rInt (tCons te tNil)) ρ (.int i) := e_cb h.b.one c_intI
theorem run_take (n : Nat) (a : Addr) (b : Nat) (h : 1 ≤ n ∧ n ≤ 100000) : RunS (t_l_take K) (some (.o (tin a (b + 1))) :: startR 5 [natD n]) { nx := fun ρ' => ρ'[0]? = some (some (.o (tin a b))) ∧ ∃ v, v < n ∧ PyData.none = natD v, rt := fun ρ' r => ρ'[0]? = some (some (.o (tin a b))) ∧ ∃ v, v < n ∧ r = natD v } := by
  obtain ⟨h1, h2⟩ := h
  refine r_tinA (i := 0) (a := a) (b := b + 1) rfl fun p q r hp hq hr hb => ?_
  refine r_seq (r_if (t_test (e_op (e_ixA (n := 0) rfl rfl).b (e_int (i := 0)).b o_gt)) (fun e => ?_) fun e => r_next ?_)
  · have e : 0 < p := of_decide_eq_true e
    refine r_seq (r_asg (x := .int (p % (n : Int))) (e_op (e_intc (e_ixA (n := 0) rfl rfl)).b (e_var (x := natD n) rfl).b (o_mod (by omega))) ?_)
    refine r_seq (r_setLA (n := 0) (x := .int (p / (n : Int))) rfl (e_op (e_ixA (n := 0) rfl rfl).b (e_var (x := natD n) rfl).b (o_div ⟨by omega, by omega⟩)) (e_int (i := 0)) (Nat.le_of_ble_eq_true rfl) ?_)
    refine r_Atin (i := 0) (a := a) (b := b) (p := p / (n : Int)) (q := q) (r := r) rfl (Int.ediv_nonneg hp (by omega)) hq hr (by omega) ?_
    exact r_ret (x := .int (p % (n : Int))) (e_var rfl) ⟨rfl, mod_nat h1⟩
  · have hz : 0 ≤ r + 1 := by omega
    refine r_seq (r_setLA (n := 2) (x := .int (r + 1)) rfl (e_op (e_ixA (n := 2) rfl rfl).b (e_int (i := 1)).b o_add) (e_int (i := 2)) (Nat.le_of_ble_eq_true rfl) ?_)
    refine r_seq (r_asg (e_op (e_intc (e_op (e_op (e_ixA (a := a) (n := 1) (z := .int q) rfl rfl).b (e_op (e_int (i := 48271)).b (e_ixA (n := 2) (z := .int (r + 1)) rfl rfl).b (o_mul (.inl ⟨by omega, by omega⟩))).b o_add).b (e_op (e_int (i := 39373)).b (e_ixA (n := 2) (z := .int (r + 1)) rfl rfl).b o_add).b (o_mul (.inr ⟨by omega, by omega⟩)))).b (e_int (i := 2147483647)).b (o_mod (by omega))) ?_)
    refine r_seq (r_asg (e_op (e_op (e_intc (e_var rfl)).b (e_int (i := 40009)).b (o_mod (by omega))).b (e_int (i := 7)).b o_add) ?_)
    refine r_seq (r_asg (e_op (e_intc (e_op (e_op (e_op (e_var rfl).b (e_ixA (n := 2) (z := .int (r + 1)) rfl rfl).b o_add).b (e_op (e_ixA (a := a) (n := 1) (z := .int q) rfl rfl).b (e_int (i := 1000003)).b (o_div ⟨by omega, by omega⟩)).b o_add).b (e_var rfl).b (o_mul (.inr ⟨by omega, by omega⟩)))).b (e_int (i := 2147483629)).b (o_mod (by omega))) ?_)
    refine r_Atin (i := 0) (a := a) (b := b) (p := p) (q := q) (r := r + 1) rfl hp hq hz (by omega) ?_
    exact r_ret (e_op (e_intc (e_op (e_op (e_intc (e_op (e_op (e_var rfl).b (e_int (i := 48271)).b (o_mul (.inr ⟨by omega, by omega⟩))).b (e_var rfl).b o_add)).b (e_int (i := 2147483587)).b (o_mod (by omega))).b (e_int (i := 64)).b (o_div ⟨by omega, by omega⟩))).b (e_var (x := natD n) rfl).b (o_mod (by omega))) ⟨rfl, mod_nat h1⟩
theorem ok_take (T : Tx K mg) : FnOk P w K mg base CX0 1 T.l_take.f T.l_take.fd P_l_take sp_take :=
  T.l_take.F.ok (k := 0) sc_l_take (len_T fun _ => rfl) fun cdv A outer s H vs Q E hr h => ⟨_, dv_l_take T hr, fn_T (N := N_l_take) run_take vs H Q E h⟩
theorem z_take {ρ : Rho} {te : TE} {j n b : Nat} {s : Addr} {Pz : Rho → D → Prop} (hj : ρ[j]? = some (some (.o (tin s (b + 1))))) (h : EvE te ρ (natD n)) (h1 : 1 ≤ n) (h2 : n ≤ 100000) (hz : ∀ v, v < n → Pz (ρ.set j (some (.o (tin s b)))) (natD v)) {E : XK} :
    EvZ (tCall sp_take [] E (tCons (tVar j) (tCons te tNil))) ρ Pz := z_callT n b hj h.one ⟨h1, h2⟩ fun r ⟨v, hv, e⟩ => by rw [e]; exact hz v hv
/-! ### _law_box, _law_cells -/
theorem EvF.imp {ρ : Rho} {te : TE} {w w' : Own} (h : EvF te ρ w) (i : ∀ G a o, w.P G a o → w'.P G a o) : EvF te ρ w' := fun σ H G k Q q => h σ H G k Q fun a o H' G' x n ho hg hw => q a o H' G' x n ho hg (i _ _ _ hw)
def sp_box : Sp := spO (fun c : Int => True) (fun c => [.list [.int c], natD 0]) fun _ => tinU 1000000
theorem b01 (k : Bool) : -(2 ^ 64 : Int) < (if k = true then (1 : Int) else 0) ∧ (if k = true then (1 : Int) else 0) < 2 ^ 64 := by cases k <;> decide
theorem b01n (k : Bool) : (0 : Int) ≤ (if k = true then (1 : Int) else 0) := by cases k <;> decide
theorem box_own {G : Hp} {a : Addr} {o : HO} {p q : Int} (hp : 0 ≤ p) (hq : 0 ≤ q) (h : (mlist [.int p, .int q, .int 0]).P G a o) : (tinU 1000000).P G a o := by
  obtain ⟨vs, e, rv⟩ := h
  refine ⟨rfl, p, q, 0, ?_, hp, hq, by decide, by decide⟩
  cases rv with
  | cons r1 rv =>
    cases rv with
    | cons r2 rv =>
      cases rv with
      | cons r3 rv =>
        cases rv
        rw [e, r1.intV, r2.intV, r3.intV]
theorem ok_box (T : Tx K mg) : FnOk P w K mg base CX0 1 T.l_box.f T.l_box.fd P_l_box sp_box :=
  T.l_box.F.ok (k := 0) sc_l_box (len_O fun _ => rfl) fun cdv A outer s H vs Q E hr h => ⟨_, dv_l_box T hr, fn_O1 (N := N_l_box) (j := 2) (fun c : Int => PyData.int c) (fun c _ => by
    refine ⟨?_, ?_⟩
    · refine e_if (b := true) (t_test ((e_op (e_var (x := natD 0) rfl).b (e_cb (e_var (x := .list [.int c]) rfl).b.one (c_lenL (K := K))).b o_lt))) (fun _ => ?_) fun e => by cases e
      exact e_op (e_var (x := .list [.int c]) rfl).b (e_var (x := natD 0) rfl).b (o_ixL (i := 0) rfl)
    · have hc : ∀ i : Nat, i = 2 → EvE (tVar i) ((startR N_l_box.length [.list [.int c], natD 0]).set 2 (some (.d (.int c)))) (.int c) := fun i e => by subst e; exact e_var rfl
      have ha := e_cb (hc 2 rfl).b.one c_abs
      have hx := e_op ha.b (e_cb (e_op ha.b (e_op (e_int (i := 10)).b (e_int (i := 18)).b (o_pow ⟨by decide, by decide, by decide⟩)).b o_ge).b.one c_intB).b (o_mul (.inr (b01 _)))
      have hy := e_op (e_op (e_op (e_intc (hc 2 rfl)).b (e_int (i := 2305843009213693951)).b (o_mod (by decide))).b (e_op (e_int (i := 39373)).b (e_var (ρ := (startR N_l_box.length [.list [.int c], natD 0]).set 2 (some (.d (.int c)))) (i := 1) (x := natD 0) rfl).b (o_mul (.inl ⟨by decide, by decide⟩))).b o_add).b (e_int (i := 3196021)).b o_add
      refine (f_lst (s_cons hx (s_cons hy (e_int (i := 0)).one)) (Nat.le_of_ble_eq_true rfl)).imp fun G a o => box_own ?_ ?_
      · refine Int.mul_nonneg ?_ ?_
        · split <;> omega
        · exact b01n _
      · have := Int.emod_nonneg c (show (2305843009213693951 : Int) ≠ 0 by decide)
        show (0 : Int) ≤ c % 2305843009213693951 + 39373 * ((0 : Nat) : Int) + 3196021
        omega) vs H Q E h⟩
def sp_cells : Sp := spI (fun l : List Int => l.length ≤ 63) (fun l => [.list (l.map .int), natD 1]) fun l r => ∃ c : Int, r = .list [.int c]
theorem cut_map {α : Type} (f : α → D) (l : List α) (lo hi : Option Int) : ∃ l' : List α, cutD (l.map f) lo hi = l'.map f ∧ l'.length ≤ l.length := by
  refine ⟨(l.drop (HT.sIx l.length 0 lo)).take (HT.sIx l.length l.length hi - HT.sIx l.length 0 lo), ?_, ?_⟩
  · unfold cutD
    rw [List.length_map, ← List.map_drop, ← List.map_take]
  · rw [List.length_take, List.length_drop]
    omega
end
end Lw
set_option Elab.async false
set_option linter.all false
set_option maxRecDepth 100000
set_option maxHeartbeats 1000000
namespace Lw
open PySem PySem.Spec PyProof.Rows L2
section
variable {P : Program} {w : World} {K : PySem.W.Frag} {mg : Str → Option Value} {base : Heap}
/-! ### _law_cells -/
theorem cut_map1 (f : Int → D) (l : List Int) (hl : l.length ≤ 63) : ∃ l' : List Int, cutD (l.map f) none (some ((1 : Nat) : Int)) = l'.map f ∧ l'.length ≤ 1 := by
  refine ⟨l.take 1, ?_, by rw [List.length_take]; omega⟩
  unfold cutD
  rw [HT.sIx_none, HT.sIx_nat, List.length_map, List.drop_zero, ← List.map_take]
  congr 1
  rw [Nat.sub_zero]
  rcases l with _ | ⟨a, l⟩
  · rfl
  · have : min 1 (a :: l).length = 1 := by rw [List.length_cons]; omega
    rw [this]
theorem run_cells (l : List Int) (h : l.length ≤ 63) : RunS (t_l_cells K) (startR 6 [.list (l.map .int), natD 1]) { nx := fun _ => ∃ c : Int, PyData.none = .list [.int c], rt := fun _ r => ∃ c : Int, r = .list [.int c] } := by
  have v0 : EvE (tVar 0) (startR 6 [.list (l.map .int), natD 1]) (.list (l.map .int)) := e_var rfl
  have v1 : EvE (tVar 1) (startR 6 [.list (l.map .int), natD 1]) (natD 1) := e_var rfl
  obtain ⟨l1, e1, h1⟩ := cut_map1 PyData.int l h
  have hs := f_slL (K := K) v0 eo_none (eo_int v1)
  rw [e1] at hs
  have ho := f_orT (K := K) (f_cb hs.b.one (c_list (K := K) (.inl rfl))) (fun _ => f_lst (e_int (i := 0)).one (by decide))
  have hc : ∃ c : Int, (if l1.map PyData.int = [] then [PyData.int 0] else l1.map PyData.int) = [.int c] := by
    rcases l1 with _ | ⟨a, _ | ⟨b, r⟩⟩
    · exact ⟨0, rfl⟩
    · exact ⟨a, rfl⟩
    · simp at h1
  obtain ⟨c0, ec⟩ := hc
  rw [ec] at ho
  refine r_seq (r_asgF ho (Nat.le_of_ble_eq_true rfl) ?_)
  obtain ⟨l2, e2, h2⟩ := cut_map PyData.int l (some ((1 : Nat) : Int)) (some 63)
  have hsl : EvE (tSl (rSlL K) (tVar 0) (tPart (tVar 1)) (tPart (tC (.int 63)))) ((startR 6 [.list (l.map .int), natD 1]).set 2 (some (.o (mlist [.int c0])))) (.list (l2.map .int)) := by
    rw [← e2]
    exact (f_slL (K := K) (e_var (x := .list (l.map .int)) rfl) (eo_int (e_var (x := natD 1) rfl)) (eo_int e_int)).e
  have hen := i_enum (K := K) hsl
  rw [enumD_map] at hen
  refine r_seq (r_for l2.zipIdx (fun p => prD (natD p.2) (.int p.1)) (fun _ ρ' => ∃ (c : Int) (a b d : Option Sl), ρ' = [some (.d (.list (l.map .int))), some (.d (natD 1)), some (.o (mlist [.int c])), a, b, d]) hen ⟨c0, none, none, none, rfl⟩ ?_ ?_)
  · rintro i ⟨bit, k⟩ ρ1 hik ⟨c, a, b, d, rfl⟩
    have hk63 : k < 64 := by
      rw [List.getElem?_zipIdx] at hik
      cases hq : l2[i]? with
      | none => rw [hq] at hik; cases hik
      | some q =>
        rw [hq] at hik
        have e := congrArg Prod.snd (Option.some.inj hik)
        have hlt := (List.getElem?_eq_some_iff.mp hq).1
        have e : 0 + i = k := e
        omega
    refine bnd_pair ?_
    refine r_seq (r_asg (x := .int (((k : Nat) : Int) % ((1 : Nat) : Int))) (e_op (e_intc (e_var (x := natD k) rfl)).b (e_var (x := natD 1) rfl).b (o_mod (by decide))) ?_)
    have e0 : ((k : Nat) : Int) % ((1 : Nat) : Int) = ((0 : Nat) : Int) := by omega
    rw [e0]
    refine r_setL (n := 0) (x := .int (c + bit * ((k : Int) + 2))) rfl (e_op (e_op (b_var (xs := [.int c]) rfl) (e_var (x := .int ((0 : Nat) : Int)) rfl).b (o_ixL (i := 0) (z := .int c) rfl)).b (e_op (e_var (x := .int bit) rfl).b (e_op (e_var (x := natD k) rfl).b (e_int (i := 2)).b o_add).b (o_mul (.inr ?_))).b o_add) (e_var rfl) (Nat.le_of_ble_eq_true rfl) ⟨_, _, _, _, rfl⟩
    exact ⟨by omega, by omega⟩
  · rintro ρ1 ⟨c, a, b, d, rfl⟩
    exact r_retO (ds := [.int c]) rfl ⟨c, rfl⟩
theorem ok_cells (T : Tx K mg) : FnOk P w K mg base CX0 1 T.l_cells.f T.l_cells.fd P_l_cells sp_cells :=
  T.l_cells.F.ok (k := 0) sc_l_cells (len_I fun _ => rfl) fun cdv A outer s H vs Q E hr h => ⟨_, dv_l_cells T hr, fn_I (N := N_l_cells) run_cells vs H Q E h⟩
/-! ### _law_of -/
def sp_of : Sp := spT (fun l : List Nat => l ≠ [] ∧ l.length ≤ 1000) (fun _ => 1) (fun l => [natsL l]) fun l r => ∃ v, v ∈ l ∧ r = natD v
theorem run_of (l : List Nat) (a : Addr) (b : Nat) (h : l ≠ [] ∧ l.length ≤ 1000) : RunS (t_l_of K sp_take) (some (.o (tin a (b + 1))) :: startR 1 [natsL l]) { nx := fun ρ' => ρ'[0]? = some (some (.o (tin a b))) ∧ ∃ v, v ∈ l ∧ PyData.none = natD v, rt := fun ρ' r => ρ'[0]? = some (some (.o (tin a b))) ∧ ∃ v, v ∈ l ∧ r = natD v } := by
  have hpos := List.length_pos_iff.mpr h.1
  refine r_retZ (z_op (z_e (e_var (x := natsL l) rfl) (z_take rfl (e_lenL (l := l) (e_var rfl).b) hpos (by omega) fun v hv => ?_)))
  exact ⟨natD l[v], o_ixL (by rw [natsD_get, List.getElem?_eq_getElem hv]; rfl), rfl, l[v], List.getElem_mem hv, rfl⟩
theorem ok_of (T : Tx K mg) : FnOk P w K mg base CX0 2 T.l_of.f T.l_of.fd P_l_of sp_of :=
  T.l_of.F.ok (k := 1) sc_l_of (len_T fun _ => rfl) fun cdv A outer s H vs Q E hr h => ⟨_, dv_l_of T (ok_take T) hr, fn_T (N := N_l_of) run_of vs H Q E h⟩
theorem z_of_ {ρ : Rho} {te : TE} {j b : Nat} {l : List Nat} {s : Addr} {Pz : Rho → D → Prop} (hj : ρ[j]? = some (some (.o (tin s (b + 1))))) (h : EvE te ρ (natsL l)) (h1 : l ≠ []) (h2 : l.length ≤ 1000) (hz : ∀ v, v ∈ l → Pz (ρ.set j (some (.o (tin s b)))) (natD v)) {E : XK} :
    EvZ (tCall sp_of [] E (tCons (tVar j) (tCons te tNil))) ρ Pz := z_callT l b hj h.one ⟨h1, h2⟩ fun r ⟨v, hv, e⟩ => by rw [e]; exact hz v hv
/-! ### _law_pick -/
def sp_pick : Sp := spT (fun p : List Nat × Nat => p.2 ≤ p.1.length ∧ p.1.length ≤ 1000) (fun p => p.2) (fun p => [natsL p.1, natD p.2]) fun p r => ∃ found pool : List Nat, (found ++ pool).Perm p.1 ∧ found.length = p.2 ∧ r = natsL found
theorem perm_erase : ∀ {l : List Nat} {v : Nat} (hv : v < l.length), (l[v] :: l.eraseIdx v).Perm l
  | a :: l, 0, _ => List.Perm.refl _
  | a :: l, v + 1, hv => by
    have ih := perm_erase (l := l) (v := v) (by simpa using hv)
    exact (List.Perm.swap a _ _).trans (ih.cons a)
theorem perm_pick {found pool : List Nat} {v : Nat} (hv : v < pool.length) : ((found ++ [pool[v]]) ++ pool.eraseIdx v).Perm (found ++ pool) := by
  rw [List.append_assoc]
  refine List.Perm.append_left found ?_
  exact perm_erase hv
theorem run_pick (p : List Nat × Nat) (a : Addr) (b : Nat) (h : p.2 ≤ p.1.length ∧ p.1.length ≤ 1000) : RunS (t_l_pick K sp_take) (some (.o (tin a (b + p.2))) :: startR 5 [natsL p.1, natD p.2])
    { nx := fun ρ' => ρ'[0]? = some (some (.o (tin a b))) ∧ ∃ found pool : List Nat, (found ++ pool).Perm p.1 ∧ found.length = p.2 ∧ PyData.none = natsL found, rt := fun ρ' r => ρ'[0]? = some (some (.o (tin a b))) ∧ ∃ found pool : List Nat, (found ++ pool).Perm p.1 ∧ found.length = p.2 ∧ r = natsL found } := by
  obtain ⟨goods, m⟩ := p
  have h1 : m ≤ goods.length := h.1
  have h2 : goods.length ≤ 1000 := h.2
  refine r_seq (r_par (k_f (f_cb (e_var (x := natsL goods) rfl).b.one (c_list (.inl rfl))) (k_f (w := mlist []) (f_lst s_nil (by decide)) (k_nil ⟨_, _, rfl, Nat.le_of_ble_eq_true rfl, Nat.le_of_ble_eq_true rfl, ?_⟩))))
  have hm := e_cb (ρ := [some (.o (tin a (b + m))), some (.d (natsL goods)), some (.d (natD m)), some (.o (mlist (natsD goods))), some (.o (mlist [])), none]) (a_cons (e_intc (e_var (i := 2) (x := natD m) rfl)).b (e_lenL (K := K) (l := goods) (b_var (i := 3) rfl)).b.one) c_min2
  have e1 : (if ((goods.length : Nat) : Int) < (m : Int) then ((goods.length : Nat) : Int) else (m : Int)) = (m : Int) := by
    rw [if_neg (by omega)]
  rw [e1] at hm
  refine r_seq (r_for (List.range m) natD (fun j ρ' => ∃ (found pool : List Nat) (s5 : Option Sl), (found ++ pool).Perm goods ∧ found.length = j ∧ j ≤ m ∧ ρ' = [some (.o (tin a (b + (m - j)))), some (.d (natsL goods)), some (.d (natD m)), some (.o (mlist (natsD pool))), some (.o (mlist (natsD found))), s5]) (i_rng1 hm (by omega)) ⟨[], goods, none, List.Perm.refl _, rfl, Nat.zero_le _, rfl⟩ ?_ ?_)
  · rintro j l ρ1 hj ⟨found, pool, s5, hp, hf, hjm, rfl⟩
    have hjl : j < m := by
      have := (List.getElem?_eq_some_iff.mp hj).1
      rwa [List.length_range] at this
    have hlen := hp.length_eq
    rw [List.length_append] at hlen
    have hpos : 0 < pool.length := by omega
    have eb : b + (m - j) = (b + (m - (j + 1))) + 1 := by omega
    rw [eb]
    refine bnd_name (r_drop (z_app (z_popAt (z_take (n := pool.length) (b := b + (m - (j + 1))) rfl (e_lenL (b_var rfl)) hpos (by omega) fun v hv => ⟨natsD pool, v, natD pool[v], rfl, by omega, rfl, rfl, by rw [natsD_get, List.getElem?_eq_getElem hv]; rfl, natsD found, rfl, rfl, by rw [natsD_len]; omega, ?_⟩) ⟨_, rfl⟩) ⟨_, rfl⟩))
    refine ⟨found ++ [pool[v]], pool.eraseIdx v, some (.d (natD l)), (perm_pick hv).trans hp, by rw [List.length_append, List.length_singleton, hf], hjl, ?_⟩
    have e3 : (natsD pool).eraseIdx v = natsD (pool.eraseIdx v) := erase_map natD pool v
    have e4 : natsD found ++ [natD pool[v]] = natsD (found ++ [pool[v]]) := by
      unfold natsD
      rw [List.map_append]
      rfl
    rw [e3, e4]
    rfl
  · rintro ρ1 ⟨found, pool, s5, hp, hf, hjm, rfl⟩
    rw [List.length_range] at hf
    refine r_retO (ds := natsD found) rfl ⟨?_, found, pool, hp, hf, rfl⟩
    rw [List.length_range, Nat.sub_self]
    rfl
theorem ok_pick (T : Tx K mg) : FnOk P w K mg base CX0 2 T.l_pick.f T.l_pick.fd P_l_pick sp_pick :=
  T.l_pick.F.ok (k := 1) sc_l_pick (len_T fun _ => rfl) fun cdv A outer s H vs Q E hr h => ⟨_, dv_l_pick T (ok_take T) hr, fn_T (N := N_l_pick) run_pick vs H Q E h⟩
theorem z_pick {ρ : Rho} {ta tb : TE} {j b m : Nat} {l : List Nat} {s : Addr} {Pz : Rho → D → Prop} (hj : ρ[j]? = some (some (.o (tin s (b + m))))) (h : EvE ta ρ (natsL l)) (hm : EvE tb ρ (natD m)) (h1 : m ≤ l.length) (h2 : l.length ≤ 1000)
    (hz : ∀ found pool, (found ++ pool).Perm l → found.length = m → Pz (ρ.set j (some (.o (tin s b)))) (natsL found)) {E : XK} : EvZ (tCall sp_pick [] E (tCons (tVar j) (tCons ta (tCons tb tNil)))) ρ Pz :=
  z_callT (l, m) b hj (s_cons h hm.one) ⟨h1, h2⟩ fun r ⟨found, pool, hp, hf, e⟩ => by rw [e]; exact hz found pool hp hf
/-! ### _law_walk -/
def sp_walk : Sp := spT (fun n : Nat => n ≤ 100) (fun n => n) (fun n => [natD n]) fun n r => ∃ o, Ord n o ∧ r = natsT o
theorem run_walk (n : Nat) (a : Addr) (b : Nat) (h : n ≤ 100) : RunS (t_l_walk K sp_pick) (some (.o (tin a (b + n))) :: startR 1 [natD n]) { nx := fun ρ' => ρ'[0]? = some (some (.o (tin a b))) ∧ ∃ o, Ord n o ∧ PyData.none = natsT o, rt := fun ρ' r => ρ'[0]? = some (some (.o (tin a b))) ∧ ∃ o, Ord n o ∧ r = natsT o } := by
  refine r_retZ (z_cb1 (z_pick (b := b) (m := n) rfl (f_lstRg (e_var rfl) (by omega)).e (e_var rfl) (by rw [List.length_range]; exact Nat.le_refl _) (by rw [List.length_range]; omega) fun found pool hp hf => ⟨_, c_tupL, rfl, found, ?_, rfl⟩))
  have hl := hp.length_eq
  rw [List.length_append, List.length_range] at hl
  have e : pool = [] := List.length_eq_zero_iff.mp (by omega)
  rw [e, List.append_nil] at hp
  exact hp
theorem ok_walk (T : Tx K mg) : FnOk P w K mg base CX0 3 T.l_walk.f T.l_walk.fd P_l_walk sp_walk :=
  T.l_walk.F.ok (k := 2) sc_l_walk (len_T fun _ => rfl) fun cdv A outer s H vs Q E hr h => ⟨_, dv_l_walk T (ok_pick T) hr, fn_T (N := N_l_walk) run_walk vs H Q E h⟩
theorem z_walk {ρ : Rho} {te : TE} {j b n : Nat} {s : Addr} {Pz : Rho → D → Prop} (hj : ρ[j]? = some (some (.o (tin s (b + n))))) (h : EvE te ρ (natD n)) (h1 : n ≤ 100) (hz : ∀ o, Ord n o → Pz (ρ.set j (some (.o (tin s b)))) (natsT o)) {E : XK} :
    EvZ (tCall sp_walk [] E (tCons (tVar j) (tCons te tNil))) ρ Pz := z_callT n b hj h.one h1 fun r ⟨o, ho, e⟩ => by rw [e]; exact hz o ho
/-! ### _law_net, for twelve and twelve -/
def sp_net : Sp := spT (fun _ : Unit => True) (fun _ => 30) (fun _ => [natD 12, natD 12]) fun _ r => ∃ m gs, WebOk m gs ∧ gs.length ≤ 12 ∧ r = webD m gs
theorem two_of {found pool l : List Nat} (hp : (found ++ pool).Perm l) (nd : l.Nodup) (hf : found.length = 2) : ∃ x y, found = [x, y] ∧ x ∈ l ∧ y ∈ l ∧ x ≠ y := by
  rcases found with _ | ⟨x, _ | ⟨y, _ | ⟨z, r⟩⟩⟩
  · simp at hf
  · simp at hf
  · have nd2 := (hp.nodup_iff).mpr nd
    have hx : x ∈ l := hp.mem_iff.mp (by simp)
    have hy : y ∈ l := hp.mem_iff.mp (by simp)
    refine ⟨x, y, rfl, hx, hy, fun e => ?_⟩
    subst e
    exact (List.nodup_cons.mp nd2).1 (by simp)
  · simp at hf
theorem net_rest {a : Addr} {b m l : Nat} (hm : 1 ≤ m) (hm2 : m ≤ 12) (hl : l ≤ 12) : RunS (tSeq (tFor (iRng1 (tCons (tVar 4) tNil)) (gName 6) (tIfS (tTest (tOp rGtI (tVar 3) (tC (.int 1)))) (tDrop (tBM K "list" rAppend (tVar 5) (tCons (tCB (rTupN K) (tCons (tCall sp_pick [] E0 (tCons (tVar 0) (tCons (tLstRg (tRg1 (tVar 3))) (tCons (tC (.int 2)) tNil)))) tNil)) tNil))) tNext))
      (tRet (tTupN (tCons (tVar 3) (tCons (tCB (rTupN K) (tCons (tVar 5) tNil)) tNil)))))
    [some (.o (tin a (b + 27))), some (.d (natD 12)), some (.d (natD 12)), some (.d (natD m)), some (.d (natD l)), some (.o (mlist [])), none]
    { nx := fun ρ' => ρ'[0]? = some (some (.o (tin a b))) ∧ ∃ m gs, WebOk m gs ∧ gs.length ≤ 12 ∧ PyData.none = webD m gs, rt := fun ρ' r => ρ'[0]? = some (some (.o (tin a b))) ∧ ∃ m gs, WebOk m gs ∧ gs.length ≤ 12 ∧ r = webD m gs } := by
  refine r_weak (i := 0) (b := b + 27) (c := b + 2 * (13 - 0)) rfl (by omega) ?_
  refine r_seq (r_for (List.range l) natD (fun j ρ' => ∃ (gs : List (Nat × Nat)) (s6 : Option Sl), (∀ g, g ∈ gs → gOk m g) ∧ gs.length ≤ j ∧ j ≤ l ∧ ρ' = [some (.o (tin a (b + 2 * (13 - j)))), some (.d (natD 12)), some (.d (natD 12)), some (.d (natD m)), some (.d (natD l)), some (.o (mlist (gs.map gD))), s6]) (i_rng1 (e_var rfl) (by omega)) ⟨[], none, fun g h => by simp at h, Nat.le_refl _, Nat.zero_le _, rfl⟩ ?_ ?_)
  · rintro j v ρ1 hj ⟨gs, s6, hg, hgl, hjl, rfl⟩
    have hj2 : j < l := by
      have := (List.getElem?_eq_some_iff.mp hj).1
      rwa [List.length_range] at this
    have eb : b + 2 * (13 - j) = (b + 2 * (13 - (j + 1))) + 2 := by omega
    rw [eb]
    refine bnd_name (r_if (t_test (e_op (e_var (x := natD m) rfl).b (e_int (i := 1)).b o_gt)) (fun e => ?_) fun e => ?_)
    · have e := of_decide_eq_true e
      refine r_drop (z_app (z_cb1 (z_pick (b := b + 2 * (13 - (j + 1))) (m := 2) rfl (f_lstRg (e_var rfl) (by omega)).e (e_int (i := ((2 : Nat) : Int))) (by rw [List.length_range]; omega) (by rw [List.length_range]; omega) fun found pool hp hf => ?_)) ⟨_, rfl⟩)
      obtain ⟨x, y, rfl, hx, hy, hxy⟩ := two_of hp List.nodup_range hf
      refine ⟨_, c_tupL, gs.map gD, rfl, rfl, by rw [List.length_map]; omega, ?_⟩
      refine ⟨gs ++ [(x, y)], some (.d (natD v)), fun g hgm => ?_, by rw [List.length_append, List.length_singleton]; omega, hj2, ?_⟩
      · rcases List.mem_append.mp hgm with z | z
        · exact hg g z
        · have z := List.mem_singleton.mp z
          subst z
          exact ⟨List.mem_range.mp hx, List.mem_range.mp hy, hxy⟩
      · rw [List.map_append]
        rfl
    · refine r_weak (i := 0) (b := (b + 2 * (13 - (j + 1))) + 2) (c := b + 2 * (13 - (j + 1))) rfl (by omega) (r_next ?_)
      exact ⟨gs, some (.d (natD v)), hg, by omega, hj2, rfl⟩
  · rintro ρ1 ⟨gs, s6, hg, hgl, hjl, rfl⟩
    rw [List.length_range] at hgl
    refine r_weak (i := 0) (c := b) rfl (by omega) ?_
    refine r_ret (e_tup (s_cons (e_var (x := natD m) rfl) (e_cb (b_var (xs := gs.map gD) rfl).one c_tupL).one) (Nat.le_of_ble_eq_true rfl)) ⟨rfl, m, gs, ⟨hm, hg, by omega, by omega⟩, by omega, rfl⟩
theorem run_net (i : Unit) (a : Addr) (b : Nat) (h : True) : RunS (t_l_net K sp_take sp_pick) (some (.o (tin a (b + 30))) :: startR 6 [natD 12, natD 12])
    { nx := fun ρ' => ρ'[0]? = some (some (.o (tin a b))) ∧ ∃ m gs, WebOk m gs ∧ gs.length ≤ 12 ∧ PyData.none = webD m gs, rt := fun ρ' r => ρ'[0]? = some (some (.o (tin a b))) ∧ ∃ m gs, WebOk m gs ∧ gs.length ≤ 12 ∧ r = webD m gs } := by
  refine r_seq (r_par3 (k_z (z_op (z_e e_int (z_take (n := 12) (b := b + 29) rfl (e_var rfl) (by decide) (by decide) fun v hv => ⟨.int (1 + (v : Int)), o_add, ?_⟩)))))
  refine k_z (z_take (n := 13) (b := b + 28) rfl (e_op (e_var (x := natD 12) rfl).b (e_int (i := 1)).b o_add) (by decide) (by decide) fun u hu => ?_)
  refine k_f (w := mlist []) (f_lst s_nil (by decide)) (k_nil ⟨_, _, _, rfl, Nat.le_of_ble_eq_true rfl, Nat.le_of_ble_eq_true rfl, Nat.le_of_ble_eq_true rfl, ?_⟩)
  refine r_seq (r_ifZ (tz_test (z_op (z_take (n := 10) (b := b + 27) rfl (e_int (i := ((10 : Nat) : Int))) (by decide) (by decide) fun c hc => z_e (e_int (i := 0)) ⟨_, o_gt, _, rfl, ?_⟩))))
  have key : ∀ m l : Nat, 1 ≤ m → m ≤ 12 → l ≤ 12 → RunS (tSeq (tFor (iRng1 (tCons (tVar 4) tNil)) (gName 6) (tIfS (tTest (tOp rGtI (tVar 3) (tC (.int 1)))) (tDrop (tBM K "list" rAppend (tVar 5) (tCons (tCB (rTupN K) (tCons (tCall sp_pick [] E0 (tCons (tVar 0) (tCons (tLstRg (tRg1 (tVar 3))) (tCons (tC (.int 2)) tNil)))) tNil)) tNil))) tNext))
      (tRet (tTupN (tCons (tVar 3) (tCons (tCB (rTupN K) (tCons (tVar 5) tNil)) tNil)))))
    [some (.o (tin a (b + 27))), some (.d (natD 12)), some (.d (natD 12)), some (.d (natD m)), some (.d (natD l)), some (.o (mlist [])), none]
    { nx := fun ρ' => ρ'[0]? = some (some (.o (tin a b))) ∧ ∃ m gs, WebOk m gs ∧ gs.length ≤ 12 ∧ PyData.none = webD m gs, rt := fun ρ' r => ρ'[0]? = some (some (.o (tin a b))) ∧ ∃ m gs, WebOk m gs ∧ gs.length ≤ 12 ∧ r = webD m gs } := fun m l h1 h2 h3 => net_rest h1 h2 h3
  have em : PyData.int (1 + (v : Int)) = natD (1 + v) := by
    unfold natD
    congr 1
  rw [em]
  split
  · have mx : ∀ {ρ : Rho} {k : Nat}, ρ[k]? = some (some (.d (natD 12))) → EvE (tCB rMax2 (tCons (tC (.int 1)) (tCons (tOp rSubI (tVar k) (tC (.int 1))) tNil))) ρ (natD 11) := fun {ρ k} hk => e_cb (a_cons (e_int (i := 1)).b (e_op (e_var hk).b (e_int (i := 1)).b o_sub).b.one) c_max2
    have md : ∀ {ρ : Rho} {k q : Nat} {z : Nat}, ρ[k]? = some (some (.d (natD 12))) → ρ[q]? = some (some (.d (natD z))) → EvE (tOp rAddI (tC (.int 2)) (tOp rModI (tCB rInt (tCons (tVar q) tNil)) (tCB rMax2 (tCons (tC (.int 1)) (tCons (tOp rSubI (tVar k) (tC (.int 1))) tNil))))) ρ (natD (2 + z % 11)) := fun {ρ k q z} hk hq => by
      have := e_op (e_int (i := 2)).b (e_op (e_intc (e_var hq)).b (mx hk).b (o_mod (by omega))).b o_add
      have e : (2 : Int) + ((z : Nat) : Int) % ((11 : Nat) : Int) = ((2 + z % 11 : Nat) : Int) := by omega
      rw [e] at this
      exact this
    refine r_par (k_e (md rfl rfl) (k_e (md rfl rfl) (k_nil ⟨_, _, rfl, Nat.le_of_ble_eq_true rfl, Nat.le_of_ble_eq_true rfl, ?_⟩)))
    exact key _ _ (by omega) (by omega) (by omega)
  · exact r_next (key _ _ (by omega) (by omega) (by omega))
theorem ok_net (T : Tx K mg) : FnOk P w K mg base CX0 3 T.l_net.f T.l_net.fd P_l_net sp_net :=
  T.l_net.F.ok (k := 2) sc_l_net (len_T fun _ => rfl) fun cdv A outer s H vs Q E hr h => ⟨_, dv_l_net T ((ok_take T).mono (by decide)) (ok_pick T) hr, fn_T (N := N_l_net) run_net vs H Q E h⟩
theorem z_net {ρ : Rho} {ta tb : TE} {j b : Nat} {s : Addr} {Pz : Rho → D → Prop} (hj : ρ[j]? = some (some (.o (tin s (b + 30))))) (h : EvE ta ρ (natD 12)) (h2 : EvE tb ρ (natD 12)) (hz : ∀ m gs, WebOk m gs → gs.length ≤ 12 → Pz (ρ.set j (some (.o (tin s b)))) (webD m gs)) {E : XK} :
    EvZ (tCall sp_net [] E (tCons (tVar j) (tCons ta (tCons tb tNil)))) ρ Pz := z_callT () b hj (s_cons h h2.one) trivial fun r ⟨m, gs, hw, hl, e⟩ => by rw [e]; exact hz m gs hw hl
/-! ### _law_busy_net -/
def sp_busy : Sp := spT (fun _ : Unit => True) (fun _ => 120) (fun _ => [natD 12, natD 12]) fun _ r => ∃ m gs, WebOk m gs ∧ gs.length ≤ 12 ∧ r = webD m gs
theorem run_busy (i : Unit) (a : Addr) (b : Nat) (h : True) : RunS (t_l_busy_net K sp_net) (some (.o (tin a (b + 120))) :: startR 4 [natD 12, natD 12])
    { nx := fun ρ' => ρ'[0]? = some (some (.o (tin a b))) ∧ ∃ m gs, WebOk m gs ∧ gs.length ≤ 12 ∧ PyData.none = webD m gs, rt := fun ρ' r => ρ'[0]? = some (some (.o (tin a b))) ∧ ∃ m gs, WebOk m gs ∧ gs.length ≤ 12 ∧ r = webD m gs } := by
  refine r_seq (r_asgZ (z_net (b := b + 90) rfl (e_var rfl) (e_var rfl) fun m gs hw hl => ?_))
  refine r_seq (r_for (List.range 3) natD (fun j ρ' => ∃ (m : Nat) (gs : List (Nat × Nat)) (s4 : Option Sl), WebOk m gs ∧ gs.length ≤ 12 ∧ j ≤ 3 ∧ ρ' = [some (.o (tin a (b + 30 * (3 - j)))), some (.d (natD 12)), some (.d (natD 12)), some (.d (webD m gs)), s4]) (i_rng1 (n := 3) e_int (by decide)) ⟨m, gs, none, hw, hl, by decide, rfl⟩ ?_ ?_)
  · rintro j v ρ1 hj ⟨m, gs, s4, hw, hl, hj3, rfl⟩
    have hj2 : j < 3 := by
      have := (List.getElem?_eq_some_iff.mp hj).1
      rwa [List.length_range] at this
    have eb : b + 30 * (3 - j) = (b + 30 * (3 - (j + 1))) + 30 := by omega
    rw [eb]
    refine bnd_name (r_if (t_test (e_op (e_lenG (m := m) (gs := gs) (e_var rfl)).b (e_int (i := 2)).b o_lt)) (fun e => ?_) fun e => ?_)
    · exact r_asgZ (z_net (b := b + 30 * (3 - (j + 1))) rfl (e_var rfl) (e_var rfl) fun m2 gs2 hw2 hl2 => ⟨m2, gs2, some (.d (natD v)), hw2, hl2, hj2, rfl⟩)
    · exact r_weak (i := 0) (c := b + 30 * (3 - (j + 1))) rfl (by omega) (r_next ⟨m, gs, some (.d (natD v)), hw, hl, hj2, rfl⟩)
  · rintro ρ1 ⟨m, gs, s4, hw, hl, hj3, rfl⟩
    exact r_weak (i := 0) (c := b) rfl (by omega) (r_ret (x := webD m gs) (e_var rfl) ⟨rfl, m, gs, hw, hl, rfl⟩)
theorem ok_busy (T : Tx K mg) : FnOk P w K mg base CX0 4 T.l_busy_net.f T.l_busy_net.fd P_l_busy_net sp_busy :=
  T.l_busy_net.F.ok (k := 3) sc_l_busy_net (len_T fun _ => rfl) fun cdv A outer s H vs Q E hr h => ⟨_, dv_l_busy_net T (ok_net T) hr, fn_T (N := N_l_busy_net) run_busy vs H Q E h⟩
theorem z_busy {ρ : Rho} {ta tb : TE} {j b : Nat} {s : Addr} {Pz : Rho → D → Prop} (hj : ρ[j]? = some (some (.o (tin s (b + 120))))) (h : EvE ta ρ (natD 12)) (h2 : EvE tb ρ (natD 12)) (hz : ∀ m gs, WebOk m gs → gs.length ≤ 12 → Pz (ρ.set j (some (.o (tin s b)))) (webD m gs)) {E : XK} :
    EvZ (tCall sp_busy [] E (tCons (tVar j) (tCons ta (tCons tb tNil)))) ρ Pz := z_callT () b hj (s_cons h h2.one) trivial fun r ⟨m, gs, hw, hl, e⟩ => by rw [e]; exact hz m gs hw hl
end
end Lw
set_option Elab.async false
set_option linter.all false
set_option maxRecDepth 100000
set_option maxHeartbeats 1000000
namespace Lw
open PySem PySem.Spec PyProof.Rows L2
section
variable {P : Program} {w : World} {K : PySem.W.Frag} {mg : Str → Option Value} {base : Heap}
/-! ### _law_seat, _law_run -/
structure SeatI where
  m : Nat
  gs : List (Nat × Nat)
  tk : List Nat
  k : Nat
def sp_seat : Sp := spI (fun i : SeatI => i.k < i.gs.length) (fun i => [webD i.m i.gs, natsL i.tk, natD i.k]) fun i r => r = tD (seatF (gAt i.gs i.k) i.tk)
theorem run_seat (i : SeatI) (h : i.k < i.gs.length) : RunS (t_l_seat K) (startR 5 [webD i.m i.gs, natsL i.tk, natD i.k]) { nx := fun _ => PyData.none = tD (seatF (gAt i.gs i.k) i.tk), rt := fun _ r => r = tD (seatF (gAt i.gs i.k) i.tk) } := by
  obtain ⟨m, gs, tk, k⟩ := i
  refine r_seq (r_unp (z_e (e_guest (m := m) (gs := gs) (l := k) (e_var rfl) (e_var rfl) h) ⟨_, _, rfl, ?_⟩))
  refine r_seq (r_if (t_test (e_op (e_var (x := natD (gAt gs k).1) rfl).b (e_var (x := natsL tk) rfl).b o_niN)) (fun e => ?_) fun e => r_next ?_)
  · have e : ¬ (gAt gs k).1 ∈ tk := by simpa using e
    refine r_ret (e_var rfl) ?_
    unfold seatF
    rw [if_neg e]
    rfl
  · have e : (gAt gs k).1 ∈ tk := by simpa using e
    refine r_ret (x := tD (seatF (gAt gs k) tk)) (e_if (t_test (e_op (e_var (x := natD (gAt gs k).2) rfl).b (e_var (x := natsL tk) rfl).b o_niN)) (fun e2 => ?_) fun e2 => ?_) rfl
    · have e2 : ¬ (gAt gs k).2 ∈ tk := by simpa using e2
      unfold seatF
      rw [if_pos e, if_neg e2]
      exact e_var rfl
    · have e2 : (gAt gs k).2 ∈ tk := by simpa using e2
      unfold seatF
      rw [if_pos e, if_pos e2]
      exact e_non
theorem ok_seat (T : Tx K mg) : FnOk P w K mg base CX0 1 T.l_seat.f T.l_seat.fd P_l_seat sp_seat :=
  T.l_seat.F.ok (k := 0) sc_l_seat (len_I fun _ => rfl) fun cdv A outer s H vs Q E hr h => ⟨_, dv_l_seat T hr, fn_I (N := N_l_seat) run_seat vs H Q E h⟩
theorem flat_tD (o : Option Nat) : flatD (tD o) = true := by cases o <;> rfl
structure WlkI where
  m : Nat
  gs : List (Nat × Nat)
  o : List Nat
def WlkI.ok (i : WlkI) : Prop := (∀ k, k ∈ i.o → k < i.gs.length) ∧ i.o.length ≤ 1000 ∧ i.gs.length ≤ 1000
def sp_run : Sp := spI WlkI.ok (fun i => [webD i.m i.gs, natsT i.o]) fun i r => r = takD (runF i.gs i.o)
theorem runS_app (gs : List (Nat × Nat)) : ∀ (a b : List Nat) (s : Tk × List Nat), runS gs (a ++ b) s = runS gs b (runS gs a s)
  | [], _, _ => rfl
  | k :: a, b, s => by
    rw [List.cons_append, runS, runS, runS_app gs a b]
theorem runS_len (gs : List (Nat × Nat)) : ∀ (a : List Nat) (s : Tk × List Nat), (runS gs a s).1.length = s.1.length
  | [], _ => rfl
  | k :: a, s => by
    rw [runS, runS_len gs a]
    exact List.length_set ..
theorem runS_tk (gs : List (Nat × Nat)) : ∀ (a : List Nat) (s : Tk × List Nat), (runS gs a s).2.length ≤ s.2.length + a.length
  | [], _ => Nat.le_refl _
  | k :: a, s => by
    rw [runS]
    have := runS_tk gs a (s.1.set k (seatF (gAt gs k) s.2), s.2 ++ (seatF (gAt gs k) s.2).toList)
    have h2 : (s.2 ++ (seatF (gAt gs k) s.2).toList).length ≤ s.2.length + 1 := by
      rw [List.length_append]
      cases seatF (gAt gs k) s.2 <;> simp
    rw [List.length_cons]
    have this : (runS gs a (s.1.set k (seatF (gAt gs k) s.2), s.2 ++ (seatF (gAt gs k) s.2).toList)).2.length ≤ (s.2 ++ (seatF (gAt gs k) s.2).toList).length + a.length := this
    omega
theorem map_set {α β : Type} (f : α → β) (l : List α) (k : Nat) (x : α) : (l.map f).set k (f x) = (l.set k x).map f := by rw [List.map_set]
theorem run_run (i : WlkI) (h : i.ok) : RunS (t_l_run K sp_seat) (startR 6 [webD i.m i.gs, natsT i.o]) { nx := fun _ => PyData.none = takD (runF i.gs i.o), rt := fun _ r => r = takD (runF i.gs i.o) } := by
  obtain ⟨m, gs, o⟩ := i
  obtain ⟨h1, h2, h3⟩ := h
  have h1 : ∀ k, k ∈ o → k < gs.length := h1
  have h2 : o.length ≤ 1000 := h2
  have h3 : gs.length ≤ 1000 := h3
  refine r_seq (r_par (k_f (f_op (e_lst e_non.one (by decide)).b (e_lenG (m := m) (gs := gs) (e_var rfl)).b (o_rep (by omega))) (k_f (w := mlist []) (f_lst s_nil (by decide)) (k_nil ⟨_, _, rfl, Nat.le_of_ble_eq_true rfl, Nat.le_of_ble_eq_true rfl, ?_⟩))))
  refine r_seq (r_for o natD (fun j ρ' => ∃ (a b : Option Sl), ρ' = [some (.d (webD m gs)), some (.d (natsT o)), some (.o (mlist ((runS gs (o.take j) (List.replicate gs.length none, [])).1.map tD))), some (.o (mlist (natsD (runS gs (o.take j) (List.replicate gs.length none, [])).2))), a, b]) (i_seq (x := natsT o) (e_var rfl) (.inr rfl)) ⟨none, none, ?_⟩ ?_ ?_)
  · have e : (List.replicate gs.length (none : Option Nat)).map tD = List.replicate gs.length PyData.none := by rw [List.map_replicate]; rfl
    rw [List.take_zero]
    show _ = ([some (.d (webD m gs)), some (.d (natsT o)), some (.o (mlist ((List.replicate gs.length (none : Option Nat)).map tD))), some (.o (mlist [])), none, none] : Rho)
    rw [e]
    rfl
  · rintro j k ρ1 hj ⟨a, b, rfl⟩
    have hk : k < gs.length := h1 k (List.mem_of_getElem? hj)
    have hjl := (List.getElem?_eq_some_iff.mp hj).1
    have est : runS gs (o.take (j + 1)) (List.replicate gs.length none, []) = runS gs [k] (runS gs (o.take j) (List.replicate gs.length none, [])) := by
      rw [List.take_succ, hj, ← runS_app]
      rfl
    have hlen := runS_len gs (o.take j) (List.replicate gs.length none, [])
    have htk := runS_tk gs (o.take j) (List.replicate gs.length none, [])
    have hlt : (o.take j).length ≤ o.length := by rw [List.length_take]; omega
    generalize hst : runS gs (o.take j) (List.replicate gs.length none, []) = st at est hlen htk ⊢
    rw [est]
    have hlen : st.1.length = gs.length := by rw [hlen]; exact List.length_replicate
    have htk : st.2.length ≤ 1000 := by
      have : ([] : List Nat).length + (o.take j).length ≤ 1000 := by rw [List.length_nil]; omega
      exact Nat.le_trans htk this
    refine bnd_name ?_
    refine r_seq (r_asg (e_callB (⟨m, gs, st.2, k⟩ : SeatI) (a_cons (e_var rfl).b (a_cons (b_var (xs := natsD st.2) rfl) (e_var (x := natD k) rfl).b.one)) hk (fun r e => e) (flat_tD _)) ?_)
    refine r_seq (r_setL (n := k) (x := tD (seatF (gAt gs k) st.2)) (ds := st.1.map tD) rfl (e_var rfl) (e_var rfl) (by rw [List.length_map]; omega) ?_)
    rw [map_set]
    refine r_if (t_test (e_op (e_var (x := tD (seatF (gAt gs k) st.2)) rfl).b e_non.b o_notN)) (fun e => ?_) fun e => r_next ?_
    · rw [isNon_tD, Bool.not_not] at e
      cases hs : seatF (gAt gs k) st.2 with
      | none => rw [hs] at e; cases e
      | some p =>
        refine r_app (ds := natsD st.2) (x := natD p) rfl (e_var rfl) (by rw [natsD_len]; omega) ⟨some (.d (natD k)), some (.d (natD p)), ?_⟩
        have e1 : runS gs [k] st = (st.1.set k (some p), st.2 ++ [p]) := by
          rw [runS, runS, hs]
          rfl
        have e2 : natsD st.2 ++ [natD p] = natsD (st.2 ++ [p]) := by
          unfold natsD
          rw [List.map_append]
          rfl
        rw [e1, e2]
        rfl
    · rw [isNon_tD, Bool.not_not] at e
      cases hs : seatF (gAt gs k) st.2 with
      | some p => rw [hs] at e; cases e
      | none =>
        refine ⟨some (.d (natD k)), some (.d .none), ?_⟩
        have e1 : runS gs [k] st = (st.1.set k none, st.2) := by
          rw [runS, runS, hs]
          show (st.1.set k none, st.2 ++ []) = _
          rw [List.append_nil]
        rw [e1]
        rfl
  · rintro ρ1 ⟨a, b, rfl⟩
    rw [List.take_length]
    exact r_ret (e_cb (b_var (xs := (runS gs o (List.replicate gs.length none, [])).1.map tD) rfl).one c_tupL) rfl
theorem ok_run (T : Tx K mg) : FnOk P w K mg base CX0 2 T.l_run.f T.l_run.fd P_l_run sp_run :=
  T.l_run.F.ok (k := 1) sc_l_run (len_I fun _ => rfl) fun cdv A outer s H vs Q E hr h => ⟨_, dv_l_run T (ok_seat T) hr, fn_I (N := N_l_run) run_run vs H Q E h⟩
theorem e_run {ρ : Rho} {ta tb : TE} {m : Nat} {gs : List (Nat × Nat)} {o : List Nat} (h1 : EvE ta ρ (webD m gs)) (h2 : EvE tb ρ (natsT o)) (ho : Ord gs.length o) (hf : gs.length ≤ 20) {E : XK} : EvE (tCall sp_run [] E (tCons ta (tCons tb tNil))) ρ (takD (runF gs o)) :=
  e_call (⟨m, gs, o⟩ : WlkI) (s_cons h1 h2.one) ⟨fun k hk => ho.mem.mp hk, by show o.length ≤ 1000; rw [ho.len]; omega, by show gs.length ≤ 1000; omega⟩ fun r e => e
/-! ### _law_is_walk_of -/
def sp_is_walk : Sp := spI (fun p : Nat × List Nat => Ord p.1 p.2 ∧ p.1 ≤ 20) (fun p => [natD p.1, natsT p.2]) fun p r => r = .bool true
theorem run_is_walk (p : Nat × List Nat) (h : Ord p.1 p.2 ∧ p.1 ≤ 20) : RunS (t_l_is_walk_of K) (startR 3 [natD p.1, natsT p.2]) { nx := fun _ => PyData.none = .bool true, rt := fun _ r => r = .bool true } := by
  obtain ⟨n, o⟩ := p
  obtain ⟨ho, hn⟩ := h
  have ho : Ord n o := ho
  have hn : n ≤ 20 := hn
  have hol := ho.len
  have hlc := f_lc (ρ := startR 3 [natD n, natsT o]) (wi := iSeq K (tVar 1)) (g := gName 2) (vs := [2]) (tt := tOr (tB (tCB (rIsi K) (tCons (tVar 2) (tCons (tC (.ty "bool")) tNil)))) (tNot (tB (tCB (rIsi K) (tCons (tVar 2) (tCons (tC (.ty "int")) tNil)))))) (te := tC (.int 1)) o natD (fun _ => false) (fun _ => .int 1) (i_seq (x := natsT o) (e_var (i := 1) rfl) (.inr rfl)).i
    (fun y hy => bndc_name (by simp) ⟨t_or (a := false) (b := false) (t_B (e_isi (e_var (x := natD y) rfl).b (kit_bool (x := natD y) rfl))) fun _ => t_not (a := true) (t_B (e_isi (e_var (x := natD y) rfl).b (kit_int (x := natD y) rfl))), fun e => by cases e⟩) (by omega)
  have e0 : ((o.filter fun _ => false).map fun _ => PyData.int 1) = [] := by simp
  rw [e0] at hlc
  refine r_seq (r_if (b := false) (t_or (a := false) (b := false) (t_not (a := true) (t_B (e_isi (e_var (x := natsT o) rfl).b (kit_tuple (x := natsT o) rfl)))) fun _ => (t_test (e_op (show EvE _ _ (natsL []) from hlc.e).b e_lst0.b o_neL))) (fun e => by cases e) fun _ => r_next ?_)
  have hs := e_op (f_cb (ρ := startR 3 [natD n, natsT o]) (e_var (i := 1) (x := natsT o) rfl).b.one (c_sortI (K := K) (l := o) (zs := List.range n) (.inr rfl) ho.nodup (by omega) (range_lt n) fun x => by rw [List.mem_range]; exact ho.mem.symm)).b (f_lstRg (n := n) (e_var (i := 0) rfl) (by omega)).b (o_eqL (K := K))
  rw [decide_eq_true rfl] at hs
  exact r_ret (x := .bool true) hs rfl
theorem ok_is_walk (T : Tx K mg) : FnOk P w K mg base CX0 1 T.l_is_walk_of.f T.l_is_walk_of.fd P_l_is_walk_of sp_is_walk :=
  T.l_is_walk_of.F.ok (k := 0) sc_l_is_walk_of (len_I fun _ => rfl) fun cdv A outer s H vs Q E hr h => ⟨_, dv_l_is_walk_of T hr, fn_I (N := N_l_is_walk_of) run_is_walk vs H Q E h⟩
/-! ### _law_arrows -/
theorem sub_lenP : ∀ {l m : List (Nat × Nat)}, l.Nodup → (∀ x, x ∈ l → x ∈ m) → l.length ≤ m.length
  | [], _, _, _ => Nat.zero_le _
  | x :: r, m, nd, h => by
    obtain ⟨n1, n2⟩ := List.nodup_cons.mp nd
    have hx := h x List.mem_cons_self
    have := sub_lenP (m := m.erase x) n2 fun y hy => (List.mem_erase_of_ne (fun e : y = x => n1 (by rw [← e]; exact hy))).mpr (h y (List.mem_cons_of_mem _ hy))
    rw [List.length_erase_of_mem hx] at this
    have := List.length_pos_of_mem hx
    rw [List.length_cons]
    omega
theorem arr_at {gs : List (Nat × Nat)} {ts : List (Option Nat)} {its k : Nat} {own spot : Option Nat} (h1 : ts[k]? = some own) (h2 : ts[its]? = some spot) : arrB gs ts its k = true ↔ ∃ p, spot = some p ∧ p ∈ askF (gAt gs k) own := by
  rw [arrB_iff]
  unfold ask has
  rw [getD_of h1, h2]
  constructor
  · rintro ⟨_, p, hp, e⟩
    exact ⟨p, Option.some.inj e, hp⟩
  · rintro ⟨p, e, hp⟩
    exact ⟨(List.getElem?_eq_some_iff.mp h1).1, p, hp, by rw [e]⟩
/-- the pairs so far: all rows ahead of k, of row k the places ahead of i -/
structure Rows (gs : List (Nat × Nat)) (ts : List (Option Nat)) (k i : Nat) (ps : List (Nat × Nat)) : Prop where
  nd : ps.Nodup
  mem : ∀ f l, (f, l) ∈ ps ↔ (l < k ∨ (l = k ∧ f < i)) ∧ arrB gs ts f l = true
theorem Rows.len {gs : List (Nat × Nat)} {ts : List (Option Nat)} {k i : Nat} {ps : List (Nat × Nat)} (R : Rows gs ts k i ps) (h : TakV gs ts) : ps.length ≤ 40 := by
  have := sub_lenP (m := arrA gs ts ts.length) R.nd fun ⟨f, l⟩ hp => (arrA_mem h.V).mpr ((R.mem f l).mp hp).2
  have h2 := arrA_len gs ts ts.length
  have h3 := h.few
  have h4 := h.V.len
  omega
theorem Rows.no {gs : List (Nat × Nat)} {ts : List (Option Nat)} {k i : Nat} {ps : List (Nat × Nat)} (R : Rows gs ts k i ps) (h : ¬ arrB gs ts i k = true) : Rows gs ts k (i + 1) ps := ⟨R.nd, fun f l => by
  rw [R.mem]
  refine and_congr_left fun ha => ?_
  constructor
  · rintro (z | ⟨z, z2⟩)
    · exact .inl z
    · exact .inr ⟨z, by omega⟩
  · rintro (z | ⟨z, z2⟩)
    · exact .inl z
    · rcases Nat.lt_or_ge f i with c | c
      · exact .inr ⟨z, c⟩
      · have : f = i := by omega
        subst this
        subst z
        exact absurd ha h⟩
theorem Rows.yes {gs : List (Nat × Nat)} {ts : List (Option Nat)} {k i : Nat} {ps : List (Nat × Nat)} (R : Rows gs ts k i ps) (h : arrB gs ts i k = true) : Rows gs ts k (i + 1) (if (i, k) ∈ ps then ps else ps ++ [(i, k)]) := by
  have hn : ¬ (i, k) ∈ ps := fun z => by
    have := ((R.mem i k).mp z).1
    omega
  rw [if_neg hn]
  refine ⟨?_, fun f l => ?_⟩
  · rw [List.nodup_append]
    refine ⟨R.nd, List.nodup_cons.mpr ⟨by simp, List.nodup_nil⟩, fun a ha b hb e => ?_⟩
    have hb := List.mem_singleton.mp hb
    subst hb
    subst e
    exact hn ha
  · rw [List.mem_append, R.mem, List.mem_singleton]
    constructor
    · rintro (⟨z, ha⟩ | z)
      · exact ⟨by omega, ha⟩
      · have e1 : f = i := congrArg Prod.fst z
        have e2 : l = k := congrArg Prod.snd z
        subst e1 e2
        exact ⟨.inr ⟨rfl, by omega⟩, h⟩
    · rintro ⟨z, ha⟩
      rcases z with z | ⟨z, z2⟩
      · exact .inl ⟨.inl z, ha⟩
      · rcases Nat.lt_or_ge f i with c | c
        · exact .inl ⟨.inr ⟨z, c⟩, ha⟩
        · have : f = i := by omega
          subst this
          subst z
          exact .inr rfl
theorem Rows.next {gs : List (Nat × Nat)} {ts : List (Option Nat)} {k : Nat} {ps : List (Nat × Nat)} (R : Rows gs ts k ts.length ps) : Rows gs ts (k + 1) 0 ps := ⟨R.nd, fun f l => by
  rw [R.mem]
  refine and_congr_left fun ha => ?_
  have := (arr_lt ha).1
  omega⟩
def sp_larr : Sp := spI (fun i : TakI => TakV i.gs i.ts) (fun i => [webD i.m i.gs, takD i.ts]) fun i r => ∃ as : List (Nat × Nat), r = .tuple (as.map pairD) ∧ ArrR i.gs i.ts as
theorem zipIdx_at {α : Type} {l : List α} {i : Nat} {p : α × Nat} (h : l.zipIdx[i]? = some p) : p.2 = i ∧ l[i]? = some p.1 := by
  rw [List.getElem?_zipIdx] at h
  cases hq : l[i]? with
  | none => rw [hq] at h; cases h
  | some q =>
    rw [hq] at h
    have e := Option.some.inj h
    rw [← e]
    exact ⟨by show 0 + i = i; omega, rfl⟩
theorem run_larr (i : TakI) (h : TakV i.gs i.ts) : RunS (t_l_arrows K) (startR 7 [webD i.m i.gs, takD i.ts]) { nx := fun _ => ∃ as : List (Nat × Nat), PyData.none = .tuple (as.map pairD) ∧ ArrR i.gs i.ts as, rt := fun _ r => ∃ as : List (Nat × Nat), r = .tuple (as.map pairD) ∧ ArrR i.gs i.ts as } := by
  obtain ⟨m, gs, ts⟩ := i
  have h : TakV gs ts := h
  have hl : ts.length = gs.length := h.V.len
  have hf : gs.length ≤ 20 := h.few
  refine r_seq (r_asgF f_dnew (Nat.le_of_ble_eq_true rfl) ?_)
  have hen : ∀ {s2 s3 s4 s5 s6 : Option Sl}, IterS (iEnumT K (tCons (tVar 1) tNil)) [some (.d (webD m gs)), some (.d (takD ts)), s2, s3, s4, s5, s6] (ts.zipIdx.map fun p => prD (natD p.2) (tD p.1)) := fun {s2 s3 s4 s5 s6} => by
    have := i_enumT (K := K) (e_var (ρ := [some (.d (webD m gs)), some (.d (takD ts)), s2, s3, s4, s5, s6]) (i := 1) (x := takD ts) rfl)
    rw [enumD_map] at this
    exact this
  refine r_seq (r_for ts.zipIdx (fun p => prD (natD p.2) (tD p.1)) (fun j ρ' => ∃ (ps : List (Nat × Nat)) (a b c d : Option Sl), Rows gs ts j 0 ps ∧ ρ' = [some (.d (webD m gs)), some (.d (takD ts)), some (.o (mpairs ps)), a, b, c, d]) hen ⟨[], none, none, none, none, ⟨List.nodup_nil, fun f l => by
    constructor
    · intro z; simp at z
    · rintro ⟨z, _⟩; omega⟩, rfl⟩ ?_ ?_)
  · rintro k ⟨own, k'⟩ ρ1 hk ⟨ps, a, b, c, d, R, rfl⟩
    obtain ⟨e1, h1⟩ := zipIdx_at hk
    have e1 : k' = k := e1
    have h1 : ts[k]? = some own := h1
    subst e1
    have hkl : k' < gs.length := by
      have := (List.getElem?_eq_some_iff.mp h1).1
      omega
    refine bnd_pair ?_
    refine r_for ts.zipIdx (fun p => prD (natD p.2) (tD p.1)) (fun j ρ' => ∃ (ps : List (Nat × Nat)) (c d : Option Sl), Rows gs ts k' j ps ∧ ρ' = [some (.d (webD m gs)), some (.d (takD ts)), some (.o (mpairs ps)), some (.d (natD k')), some (.d (tD own)), c, d]) hen ⟨ps, c, d, R, rfl⟩ ?_ ?_
    · rintro its ⟨spot, its'⟩ ρ2 hi ⟨ps, c, d, R, rfl⟩
      obtain ⟨e2, h2⟩ := zipIdx_at hi
      have e2 : its' = its := e2
      have h2 : ts[its]? = some spot := h2
      subst e2
      have hA := arr_at (gs := gs) h1 h2
      have hps := R.len h
      refine bnd_pair ?_
      have vI : EvE (tVar 5) ([some (.d (webD m gs)), some (.d (takD ts)), some (.o (mpairs ps)), some (.d (natD k')), some (.d (tD own)), some (.d (natD its')), some (.d (tD spot))] : Rho) (natD its') := e_var rfl
      have vS : EvE (tVar 6) ([some (.d (webD m gs)), some (.d (takD ts)), some (.o (mpairs ps)), some (.d (natD k')), some (.d (tD own)), some (.d (natD its')), some (.d (tD spot))] : Rho) (tD spot) := e_var rfl
      have vK : EvE (tVar 3) ([some (.d (webD m gs)), some (.d (takD ts)), some (.o (mpairs ps)), some (.d (natD k')), some (.d (tD own)), some (.d (natD its')), some (.d (tD spot))] : Rho) (natD k') := e_var rfl
      have vO : EvE (tVar 4) ([some (.d (webD m gs)), some (.d (takD ts)), some (.o (mpairs ps)), some (.d (natD k')), some (.d (tD own)), some (.d (natD its')), some (.d (tD spot))] : Rho) (tD own) := e_var rfl
      have vG : EvE (tOp (rIx K) (tOp (rIx K) (tVar 0) (tC (.int 1))) (tVar 3)) ([some (.d (webD m gs)), some (.d (takD ts)), some (.o (mpairs ps)), some (.d (natD k')), some (.d (tD own)), some (.d (natD its')), some (.d (tD spot))] : Rho) (gD (gAt gs k')) := e_guest (m := m) (gs := gs) (e_var rfl) vK hkl
      have cont : ¬ arrB gs ts its' k' = true → ∃ (ps' : List (Nat × Nat)) (c d : Option Sl), Rows gs ts k' (its' + 1) ps' ∧ ([some (.d (webD m gs)), some (.d (takD ts)), some (.o (mpairs ps)), some (.d (natD k')), some (.d (tD own)), some (.d (natD its')), some (.d (tD spot))] : Rho) = [some (.d (webD m gs)), some (.d (takD ts)), some (.o (mpairs ps')), some (.d (natD k')), some (.d (tD own)), c, d] := fun z => ⟨ps, _, _, R.no z, rfl⟩
      cases spot with
      | none =>
        refine r_seq (r_if (b := true) ((t_or (t_test (e_op vI.b vK.b o_eqN)) fun _ => t_or (a := true) (b := false) (t_test (e_op vS.b e_non.b o_isN)) fun e => by cases e).is (by simp)) (fun _ => r_cont (cont fun z => ?_)) fun e => by cases e)
        obtain ⟨p, e, _⟩ := hA.mp z
        cases e
      | some p =>
        have tin := t_test (e_op vS.b vG.b (o_niT (K := K) (k := (p : Int)) (ns := [((gAt gs k').1 : Int), ((gAt gs k').2 : Int)])))
        have ein : decide ((p : Int) ∈ [((gAt gs k').1 : Int), ((gAt gs k').2 : Int)]) = decide (p = (gAt gs k').1 ∨ p = (gAt gs k').2) := decide_eq_decide.mpr (by
          rw [List.mem_cons, List.mem_singleton]
          omega)
        rw [ein] at tin
        refine r_seq (r_if (t_or (t_test (e_op vI.b vK.b o_eqN)) fun _ => t_or (a := false) (t_test (e_op vS.b e_non.b o_isN)) fun _ => tin) (fun e => r_cont (cont fun z => ?_)) fun e => r_next ?_)
        · obtain ⟨q, eq, hq⟩ := hA.mp z
          have eq := Option.some.inj eq
          subst eq
          obtain ⟨hne, hor⟩ := ask_mem hq
          rw [Bool.or_eq_true, Bool.or_eq_true] at e
          rcases e with e | e | e
          · have e := of_decide_eq_true e
            subst e
            rw [h1] at h2
            have h2 := Option.some.inj h2
            rcases hor with z1 | ⟨z1, z2⟩
            · exact hne (by rw [h2, z1])
            · exact z2 (by rw [h2, z1])
          · cases e
          · have e : ¬ (p = (gAt gs k').1 ∨ p = (gAt gs k').2) := by simpa using e
            exact e (hor.imp id And.left)
        · rw [Bool.or_eq_false_iff, Bool.or_eq_false_iff] at e
          have hik := of_decide_eq_false e.1
          have hpg : p = (gAt gs k').1 ∨ p = (gAt gs k').2 := Decidable.byContradiction fun z => by
            have e3 := e.2.2
            rw [decide_eq_false z] at e3
            cases e3
          have put : arrB gs ts its' k' = true → RunS (sDPut (tVar 2) (tTup (tCons (tVar 5) (tCons (tVar 3) tNil))) (tC (.bl true))) ([some (.d (webD m gs)), some (.d (takD ts)), some (.o (mpairs ps)), some (.d (natD k')), some (.d (tD own)), some (.d (natD its')), some (.d (tD (some p)))] : Rho)
              { nx := fun ρ' => ∃ (ps' : List (Nat × Nat)) (c d : Option Sl), Rows gs ts k' (its' + 1) ps' ∧ ρ' = [some (.d (webD m gs)), some (.d (takD ts)), some (.o (mpairs ps')), some (.d (natD k')), some (.d (tD own)), c, d], rt := fun _ r => ∃ as : List (Nat × Nat), r = .tuple (as.map pairD) ∧ ArrR gs ts as, bk := fun ρ' => ∃ (ps' : List (Nat × Nat)) (a b c d : Option Sl), Rows gs ts (k' + 1) 0 ps' ∧ ρ' = [some (.d (webD m gs)), some (.d (takD ts)), some (.o (mpairs ps')), a, b, c, d], ct := fun ρ' => ∃ (ps' : List (Nat × Nat)) (c d : Option Sl), Rows gs ts k' (its' + 1) ps' ∧ ρ' = [some (.d (webD m gs)), some (.d (takD ts)), some (.o (mpairs ps')), some (.d (natD k')), some (.d (tD own)), c, d] } :=
            fun z => r_dput (p := (its', k')) (ps := ps) rfl e_bl (e_pair (s_cons vI vK.one)) (by omega) ⟨_, _, _, R.yes z, rfl⟩
          cases own with
          | none =>
            refine r_if (b := true) (t_or (a := true) (b := false) (t_test (e_op vO.b e_non.b o_isN)) fun e => by cases e) (fun _ => put (hA.mpr ⟨p, rfl, ?_⟩)) fun e => by cases e
            unfold askF
            rw [if_neg (by simp), if_neg (by simp)]
            rcases hpg with z | z
            · rw [z]; exact List.mem_cons_self
            · rw [z]; exact List.mem_cons_of_mem _ List.mem_cons_self
          | some q =>
            refine r_if (t_or (a := false) (t_test (e_op vO.b e_non.b o_isN)) fun _ => t_and (t_test (e_op vO.b (e_snd vG).b (o_eqT (o := some q)))) fun _ => t_test (e_op vS.b (e_fst vG).b (o_eqT (o := some p)))) (fun e => put (hA.mpr ⟨p, rfl, ?_⟩)) fun e => r_next (cont fun z => ?_)
            · rw [Bool.false_or, Bool.and_eq_true] at e
              have e1 : some q = some (gAt gs k').2 := of_decide_eq_true e.1
              have e2 : some p = some (gAt gs k').1 := of_decide_eq_true e.2
              have e3 := Option.some.inj e1
              have e4 := Option.some.inj e2
              unfold askF
              by_cases hg : some q = some (gAt gs k').1
              · exfalso
                have hg := Option.some.inj hg
                have hq : has ts k' p := by
                  unfold has
                  rw [h1, hg, ← e4]
                exact hik (h.V.inj _ _ p h2 hq)
              · rw [if_neg hg, if_pos e1, e4]
                exact List.mem_cons_self
            · obtain ⟨p', ep, hq⟩ := hA.mp z
              have ep := Option.some.inj ep
              subst ep
              rw [Bool.false_or] at e
              obtain ⟨hne, hor⟩ := ask_mem hq
              have hq2 := h.V.at_ k' q h1
              have e1 : q = (gAt gs k').2 := by
                rcases hq2 with z | z
                · exact absurd (by rw [z]) hne
                · exact z
              have e2 : p = (gAt gs k').1 := by
                rcases hor with z | ⟨_, z⟩
                · exact z
                · exact absurd (by rw [e1]) z
              rw [e1, e2] at e
              simp at e
    · rintro ρ2 ⟨ps, c, d, R, rfl⟩
      rw [List.length_zipIdx] at R
      exact ⟨ps, _, _, c, d, R.next, rfl⟩
  · rintro ρ1 ⟨ps, a, b, c, d, R, rfl⟩
    rw [List.length_zipIdx] at R
    have hps := R.len h
    have hm : ∀ f l, (f, l) ∈ ps ↔ arrB gs ts f l = true := fun f l => by
      rw [R.mem]
      exact ⟨And.right, fun z => ⟨.inl (arr_lt z).2, z⟩⟩
    refine r_retP (p_cb1 (p_sortDT rfl (by omega) fun p hp => ?_) fun x ⟨bs, hb, e⟩ => ?_)
    · obtain ⟨f, l⟩ := p
      have := arr_lt ((hm f l).mp hp)
      exact ⟨by show f < 1000; omega, by show l < 1000; omega⟩
    · subst e
      exact ⟨_, c_tupL, bs, rfl, fun f l => by rw [hb.mem_iff, hm], by rw [hb.length_eq]; omega⟩
theorem ok_larr (T : Tx K mg) : FnOk P w K mg base CX0 1 T.l_arrows.f T.l_arrows.fd P_l_arrows sp_larr :=
  T.l_arrows.F.ok (k := 0) sc_l_arrows (len_I fun _ => rfl) fun cdv A outer s H vs Q E hr h => ⟨_, dv_l_arrows T hr, fn_I (N := N_l_arrows) run_larr vs H Q E h⟩
theorem p_larr {ρ : Rho} {ta tb : TE} {m : Nat} {gs : List (Nat × Nat)} {ts : List (Option Nat)} (h1 : EvE ta ρ (webD m gs)) (h2 : EvE tb ρ (takD ts)) (hv : TakV gs ts) {E : XK} :
    EvP (tCall sp_larr [] E (tCons ta (tCons tb tNil))) ρ fun r => ∃ as : List (Nat × Nat), r = .tuple (as.map pairD) ∧ ArrR gs ts as := p_call (⟨m, gs, ts⟩ : TakI) (s_cons h1 h2.one) hv
end
end Lw
set_option Elab.async false
set_option linter.all false
set_option maxRecDepth 100000
set_option maxHeartbeats 1000000
namespace Lw
open PySem PySem.Spec PyProof.Rows L2
section
variable {P : Program} {w : World} {K : PySem.W.Frag} {mg : Str → Option Value} {base : Heap}
theorem natsD_app (a b : List Nat) : natsD (a ++ b) = natsD a ++ natsD b := List.map_append
/-! ### _law_ahead_of -/
structure AhI where
  m : Nat
  gs : List (Nat × Nat)
  ts : List (Option Nat)
  k : Nat
def AhI.ok (i : AhI) : Prop := TakV i.gs i.ts ∧ i.k < i.gs.length
/-- ascending, just those who come ahead of k -/
def AncL (gs : List (Nat × Nat)) (ts : List (Option Nat)) (k : Nat) (zs : List Nat) : Prop := zs.Pairwise (· < ·) ∧ ∀ x, x ∈ zs ↔ Anc (arrB gs ts) k x
/-- what a turn has found: of the arrows seen so far, those whose head is in now, their tails not yet found -/
structure Turn1 (now found : List Nat) (seen : List (Nat × Nat)) (new : List Nat) : Prop where
  nd : (found ++ new).Nodup
  mem : ∀ f, f ∈ new ↔ (∃ g, g ∈ now ∧ (f, g) ∈ seen) ∧ f ∉ found
theorem sp_dummy : True := trivial
def sp_ahead : Sp := spI AhI.ok (fun i => [webD i.m i.gs, takD i.ts, natD i.k]) fun i r => ∃ zs, AncL i.gs i.ts i.k zs ∧ r = natsT zs
theorem turn_start {now found : List Nat} (nd : found.Nodup) : Turn1 now found [] [] := ⟨by rw [List.append_nil]; exact nd, fun f => by simp⟩
theorem turn_skip {now found new : List Nat} {seen : List (Nat × Nat)} {p : Nat × Nat} (T : Turn1 now found seen new) (h : ¬ (p.2 ∈ now ∧ p.1 ∉ found ++ new)) : Turn1 now found (seen ++ [p]) new := ⟨T.nd, fun f => by
  rw [T.mem]
  refine and_congr_left fun hf => ?_
  constructor
  · rintro ⟨g, h1, h2⟩
    exact ⟨g, h1, List.mem_append_left _ h2⟩
  · rintro ⟨g, h1, h2⟩
    rcases List.mem_append.mp h2 with z | z
    · exact ⟨g, h1, z⟩
    · have z := List.mem_singleton.mp z
      subst z
      by_cases hq : f ∈ found ++ new
      · rcases List.mem_append.mp hq with c | c
        · exact absurd c hf
        · exact ((T.mem f).mp c).1
      · exact absurd ⟨h1, hq⟩ h⟩
theorem turn_take {now found new : List Nat} {seen : List (Nat × Nat)} {p : Nat × Nat} (T : Turn1 now found seen new) (h1 : p.2 ∈ now) (h2 : p.1 ∉ found ++ new) : Turn1 now found (seen ++ [p]) (new ++ [p.1]) := ⟨by
  rw [← List.append_assoc, List.nodup_append]
  refine ⟨T.nd, List.nodup_cons.mpr ⟨by simp, List.nodup_nil⟩, fun a ha b hb e => ?_⟩
  have hb := List.mem_singleton.mp hb
  subst hb
  subst e
  exact h2 ha, fun f => by
  rw [List.mem_append, T.mem, List.mem_singleton]
  constructor
  · rintro (⟨⟨g, z1, z2⟩, z3⟩ | z)
    · exact ⟨⟨g, z1, List.mem_append_left _ z2⟩, z3⟩
    · subst z
      exact ⟨⟨p.2, h1, List.mem_append_right _ (List.mem_singleton.mpr rfl)⟩, fun z => h2 (List.mem_append_left _ z)⟩
  · rintro ⟨⟨g, z1, z2⟩, z3⟩
    rcases List.mem_append.mp z2 with z | z
    · exact .inl ⟨⟨g, z1, z⟩, z3⟩
    · have z := List.mem_singleton.mp z
      have : f = p.1 := by rw [← z]
      exact .inr this⟩
theorem run_ahead (i : AhI) (h : i.ok) : RunS (t_l_ahead_of K sp_larr) (startR 9 [webD i.m i.gs, takD i.ts, natD i.k]) { nx := fun _ => ∃ zs, AncL i.gs i.ts i.k zs ∧ PyData.none = natsT zs, rt := fun _ r => ∃ zs, AncL i.gs i.ts i.k zs ∧ r = natsT zs } := by
  obtain ⟨m, gs, ts, k⟩ := i
  obtain ⟨hv, hk⟩ := h
  have hv : TakV gs ts := hv
  have hk : k < gs.length := hk
  have hl : ts.length = gs.length := hv.V.len
  have hf : gs.length ≤ 20 := hv.few
  have hlt : ∀ f l, arrB gs ts f l = true → f < ts.length := fun f l z => (arr_lt z).1
  refine r_seq (r_par3 (k_z (z_of ((p_larr (m := m) (e_var rfl) (e_var rfl) hv).imp fun r hr => k_f (w := mlist []) (f_lst s_nil (by decide)) (k_e (e_lst (e_var (x := natD k) rfl).one (Nat.le_of_ble_eq_true rfl)) (k_nil ?_))))))
  obtain ⟨as, rfl, has, hal⟩ := hr
  refine ⟨_, _, _, rfl, Nat.le_of_ble_eq_true rfl, Nat.le_of_ble_eq_true rfl, Nat.le_of_ble_eq_true rfl, ?_⟩
  refine r_seq (r_while (fun q ρ' => ∃ (found now : List Nat) (s6 s7 s8 : Option Sl), q = srchM ts.length found now ∧ Srch (arrB gs ts) ts.length k found now ∧ ρ' = [some (.d (webD m gs)), some (.d (takD ts)), some (.d (natD k)), some (.d (.tuple (as.map pairD))), some (.o (mlist (natsD found))), some (.d (natsL now)), s6, s7, s8]) (srchM ts.length [] [k]) ⟨[], [k], none, none, none, rfl, Srch.start, rfl⟩ ?_)
  rintro q ρ1 ⟨found, now, s6, s7, s8, rfl, S, rfl⟩
  refine ⟨!decide (now = []), t_test (e_op (e_var (x := natsL now) rfl).b e_lst0.b o_neL), fun hb => ?_, fun hb => ?_⟩
  · have hne : now ≠ [] := by simpa using hb
    refine r_seq (r_asgF (w := mlist []) (f_lst s_nil (by decide)) (Nat.le_of_ble_eq_true rfl) ?_)
    refine r_seq (r_for as pairD (fun j ρ' => ∃ (new : List Nat) (s7 s8 : Option Sl), Turn1 now found (as.take j) new ∧ new.length ≤ j ∧ ρ' = [some (.d (webD m gs)), some (.d (takD ts)), some (.d (natD k)), some (.d (.tuple (as.map pairD))), some (.o (mlist (natsD (found ++ new)))), some (.d (natsL now)), some (.o (mlist (natsD new))), s7, s8]) (i_seq (x := .tuple (as.map pairD)) (e_var rfl) (.inr rfl)) ⟨[], s7, s8, turn_start S.nd, Nat.le_refl _, ?_⟩ ?_ ?_)
    · rw [List.append_nil]
      rfl
    · rintro j ⟨one, two⟩ ρ2 hj ⟨new, s7, s8, T, hnl, rfl⟩
      have hjl := (List.getElem?_eq_some_iff.mp hj).1
      have htk : as.take (j + 1) = as.take j ++ [(one, two)] := by rw [List.take_succ, hj]; rfl
      have hfl := nodup_le S.nd S.lt
      refine bnd_pair (r_if (t_and (t_test (e_op (e_var (x := natD two) rfl).b (e_var (x := natsL now) rfl).b o_inN)) fun _ => t_test (e_op (e_var (x := natD one) rfl).b (b_var (xs := natsD (found ++ new)) rfl) o_niN)) (fun e => ?_) fun e => r_next ?_)
      · rw [Bool.and_eq_true] at e
        have e1 : two ∈ now := of_decide_eq_true e.1
        have e2 : one ∉ found ++ new := by simpa using e.2
        refine r_seq (r_app (ds := natsD (found ++ new)) (x := natD one) rfl (e_var rfl) (by rw [natsD_len, List.length_append]; omega) ?_)
        refine r_app (ds := natsD new) (x := natD one) rfl (e_var rfl) (by rw [natsD_len]; omega) ⟨new ++ [one], some (.d (natD one)), some (.d (natD two)), by rw [htk]; exact turn_take T e1 e2, by rw [List.length_append, List.length_singleton]; omega, ?_⟩
        have q1 : natsD (found ++ new) ++ [natD one] = natsD (found ++ (new ++ [one])) := by
          rw [← List.append_assoc, natsD_app (found ++ new)]
          rfl
        have q2 : natsD new ++ [natD one] = natsD (new ++ [one]) := by
          unfold natsD
          rw [List.map_append]
          rfl
        rw [q1, q2]
        rfl
      · have T2 : Turn1 now found (as.take (j + 1)) new := by
          rw [htk]
          refine turn_skip T fun z => ?_
          have : (decide (two ∈ now) && !decide (one ∈ found ++ new)) = true := by
            rw [decide_eq_true z.1, decide_eq_false z.2]
            rfl
          rw [this] at e
          cases e
        exact ⟨new, some (.d (natD one)), some (.d (natD two)), T2, by omega, rfl⟩
    · rintro ρ2 ⟨new, s7, s8, T, hnl, rfl⟩
      rw [List.take_length] at T
      refine r_frz (i := 6) (ds := natsD new) rfl (r_asg (x := natsL new) (e_var rfl) ?_)
      have S' : Srch (arrB gs ts) ts.length k (found ++ new) new := S.step hlt (fun f => by
        rw [T.mem]
        refine and_congr_left fun _ => ?_
        exact exists_congr fun g => and_congr_right fun _ => has f g) (fun f => List.mem_append) T.nd
      exact ⟨srchM ts.length (found ++ new) new, S'.less hne (by rw [List.length_append]; omega), found ++ new, new, some (.d (natsL new)), s7, s8, rfl, S', rfl⟩
  · have hne : now = [] := by simpa using hb
    subst hne
    have hfl := nodup_le S.nd S.lt
    refine r_ret (e_cb (f_cb (b_var (xs := natsD found) rfl).one (c_sortI (l := found) (zs := asc found) (.inl rfl) S.nd (by omega) (asc_lt found) fun x => asc_mem)).b.one c_tupL) ⟨asc found, ⟨asc_lt found, fun x => ?_⟩, rfl⟩
    rw [asc_mem, S.done]
theorem ok_ahead (T : Tx K mg) : FnOk P w K mg base CX0 2 T.l_ahead_of.f T.l_ahead_of.fd P_l_ahead_of sp_ahead :=
  T.l_ahead_of.F.ok (k := 1) sc_l_ahead_of (len_I fun _ => rfl) fun cdv A outer s H vs Q E hr h => ⟨_, dv_l_ahead_of T (ok_larr T) hr, fn_I (N := N_l_ahead_of) run_ahead vs H Q E h⟩
/-! ### _law_along -/
def AlI (i : TakI) : Prop := TakV i.gs i.ts ∧ ∃ w, Ord i.gs.length w ∧ Along i.gs i.ts w
def sp_lalong : Sp := spT AlI (fun i => i.gs.length) (fun i => [webD i.m i.gs, takD i.ts]) fun i r => ∃ o, Ord i.gs.length o ∧ Along i.gs i.ts o ∧ r = natsT o
theorem filter_erase {left : List Nat} {g : Nat} (nd : left.Nodup) (hg : g ∈ left) : left.Perm (g :: left.filter fun x => !decide (x = g)) := by
  induction left with
  | nil => simp at hg
  | cons a l ih =>
    obtain ⟨n1, n2⟩ := List.nodup_cons.mp nd
    by_cases e : a = g
    · subst e
      have : (a :: l).filter (fun x => !decide (x = a)) = l := by
        rw [List.filter_cons, decide_eq_true rfl]
        show l.filter _ = l
        refine List.filter_eq_self.mpr fun x hx => ?_
        have : x ≠ a := fun z => n1 (z ▸ hx)
        simp [this]
      rw [this]
    · have hg2 : g ∈ l := by
        rcases List.mem_cons.mp hg with z | z
        · exact absurd z.symm e
        · exact z
      have : (a :: l).filter (fun x => !decide (x = g)) = a :: l.filter fun x => !decide (x = g) := by
        rw [List.filter_cons, decide_eq_false e]
        rfl
      rw [this]
      exact ((ih n2 hg2).cons a).trans (List.Perm.swap g a _)
theorem run_lalong (i : TakI) (a : Addr) (b : Nat) (h : AlI i) : RunS (t_l_along K sp_larr sp_of) (some (.o (tin a (b + i.gs.length))) :: startR 10 [webD i.m i.gs, takD i.ts])
    { nx := fun ρ' => ρ'[0]? = some (some (.o (tin a b))) ∧ ∃ o, Ord i.gs.length o ∧ Along i.gs i.ts o ∧ PyData.none = natsT o, rt := fun ρ' r => ρ'[0]? = some (some (.o (tin a b))) ∧ ∃ o, Ord i.gs.length o ∧ Along i.gs i.ts o ∧ r = natsT o } := by
  obtain ⟨m, gs, ts⟩ := i
  obtain ⟨hv, w0, hw, hal0⟩ := h
  have hv : TakV gs ts := hv
  have hw : Ord gs.length w0 := hw
  have hal0 : Along gs ts w0 := hal0
  have hl : ts.length = gs.length := hv.V.len
  have hf : gs.length ≤ 20 := hv.few
  have hlt : ∀ f l, arrB gs ts f l = true → f < gs.length := fun f l z => by have := (arr_lt z).1; omega
  have hlt2 : ∀ f l, arrB gs ts f l = true → l < gs.length := fun f l z => by have := (arr_lt z).2; omega
  refine r_seq (r_tup3 (k_z (z_of ((p_larr (m := m) (e_var rfl) (e_var rfl) hv).imp fun r hr => k_e (f_lstRg (e_lenT (ts := ts) (e_var rfl)) (by omega)).e (k_e (x := natsT []) (e_tup s_nil (by decide)) (k_nil ?_))))))
  obtain ⟨as, rfl, has, hasl⟩ := hr
  refine ⟨_, _, _, rfl, Nat.le_of_ble_eq_true rfl, Nat.le_of_ble_eq_true rfl, Nat.le_of_ble_eq_true rfl, ?_⟩
  rw [hl]
  refine r_seq (r_while (fun q ρ' => ∃ (left found : List Nat) (s6 s7 s8 s9 s10 : Option Sl), q = left.length ∧ Peel (arrB gs ts) gs.length left found ∧ ρ' = [some (.o (tin a (b + left.length))), some (.d (webD m gs)), some (.d (takD ts)), some (.d (.tuple (as.map pairD))), some (.d (natsL left)), some (.d (natsT found)), s6, s7, s8, s9, s10]) gs.length ⟨List.range gs.length, [], none, none, none, none, none, by rw [List.length_range], Peel.start _ _, by rw [List.length_range]; rfl⟩ ?_)
  rintro q ρ1 ⟨left, found, s6, s7, s8, s9, s10, rfl, Pl, rfl⟩
  have hor : Ord gs.length (found ++ left) := Pl.1
  have hlen := hor.len
  rw [List.length_append] at hlen
  refine ⟨!decide (left = []), t_test (e_op (e_var (x := natsL left) rfl).b e_lst0.b o_neL), fun hb => ?_, fun hb => ?_⟩
  · have hne : left ≠ [] := by simpa using hb
    have hlc := f_lc (ρ := [some (.o (tin a (b + left.length))), some (.d (webD m gs)), some (.d (takD ts)), some (.d (.tuple (as.map pairD))), some (.d (natsL left)), some (.d (natsT found)), s6, s7, s8, s9, s10]) (wi := iSeq K (tVar 3)) (g := gTup K 2 (gCons (gName 8) (gCons (gName 9) gNil))) (vs := [8, 9]) (tt := tTest (tOp (rIn K false) (tVar 8) (tVar 4))) (te := tVar 9)
      as pairD (fun p => decide (p.1 ∈ left)) (fun p => natD p.2) (i_seq (x := .tuple (as.map pairD)) (e_var rfl) (.inr rfl)).i (fun y hy => bndc_pair (by simp) (by simp) ⟨t_test (e_op (e_var (x := natD y.1) rfl).b (e_var (x := natsL left) rfl).b o_inN), fun _ => e_var rfl⟩) (by omega)
    rw [snd_nats] at hlc
    refine r_seq (r_asg hlc.e ?_)
    obtain ⟨g0, hg0, hg1⟩ := first_free' hw hal0 Pl hne
    have hfr : freeF (arrB gs ts) left ≠ [] := fun z => by
      have : g0 ∈ freeF (arrB gs ts) left := mem_free.mpr ⟨hg0, hg1⟩
      rw [z] at this
      simp at this
    have hl2 := f_lc (ρ := [some (.o (tin a (b + left.length))), some (.d (webD m gs)), some (.d (takD ts)), some (.d (.tuple (as.map pairD))), some (.d (natsL left)), some (.d (natsT found)), some (.d (natsL ((as.filter fun p => decide (p.1 ∈ left)).map Prod.snd))), s7, s8, s9, s10]) (wi := iSeq K (tVar 4)) (g := gName 10) (vs := [10]) (tt := tTest (tOp (rIn K true) (tVar 10) (tVar 6))) (te := tVar 10)
      left natD (fun g => !decide (g ∈ (as.filter fun p => decide (p.1 ∈ left)).map Prod.snd)) natD (i_seq (x := natsL left) (e_var rfl) (.inl rfl)).i (fun y hy => bndc_name (by simp) ⟨t_test (e_op (e_var (x := natD y) rfl).b (e_var (x := natsL ((as.filter fun p => decide (p.1 ∈ left)).map Prod.snd)) rfl).b o_niN), fun _ => e_var rfl⟩) (by omega)
    rw [free_list has] at hl2
    have hfl : (freeF (arrB gs ts) left).length ≤ left.length := List.length_filter_le _ _
    have hpos := List.length_pos_iff.mpr hne
    have eb : b + left.length = (b + (left.length - 1)) + 1 := by omega
    have hz := z_of_ (Pz := fun ρ' d => ∃ v, v ∈ freeF (arrB gs ts) left ∧ d = natD v ∧ ρ' = [some (.o (tin a (b + (left.length - 1)))), some (.d (webD m gs)), some (.d (takD ts)), some (.d (.tuple (as.map pairD))), some (.d (natsL left)), some (.d (natsT found)), some (.d (natsL ((as.filter fun p => decide (p.1 ∈ left)).map Prod.snd))), s7, s8, s9, s10]) (b := b + (left.length - 1)) (s := a) (j := 0) (E := E0) (by rw [← eb]; rfl) hl2.e hfr (by omega) fun v hv => ⟨v, hv, rfl, rfl⟩
    refine r_seq (r_asgZ (hz.imp fun ρ' d hp => ?_))
    obtain ⟨v, hv, rfl, rfl⟩ := hp
    obtain ⟨hv1, hv2⟩ := mem_free.mp hv
    have hnd : left.Nodup := (List.nodup_append.mp hor.nodup).2.1
    have hfp := filter_erase hnd hv1
    have hl3 := f_lc (ρ := [some (.o (tin a (b + (left.length - 1)))), some (.d (webD m gs)), some (.d (takD ts)), some (.d (.tuple (as.map pairD))), some (.d (natsL left)), some (.d (natsT found)), some (.d (natsL ((as.filter fun p => decide (p.1 ∈ left)).map Prod.snd))), some (.d (natD v)), s8, s9, s10]) (wi := iSeq K (tVar 4)) (g := gName 10) (vs := [10]) (tt := tTest (tOp (rNeD K) (tVar 10) (tVar 7))) (te := tVar 10)
      left natD (fun g => !decide (g = v)) natD (i_seq (x := natsL left) (e_var rfl) (.inl rfl)).i (fun y hy => bndc_name (by simp) ⟨t_test (e_op (e_var (x := natD y) rfl).b (e_var (x := natD v) rfl).b o_neN), fun _ => e_var rfl⟩) (by omega)
    have hcat := e_op (e_var (ρ := [some (.o (tin a (b + (left.length - 1)))), some (.d (webD m gs)), some (.d (takD ts)), some (.d (.tuple (as.map pairD))), some (.d (natsL left)), some (.d (natsT found)), some (.d (natsL ((as.filter fun p => decide (p.1 ∈ left)).map Prod.snd))), some (.d (natD v)), s8, s9, s10]) (i := 5) (x := natsT found) rfl).b (e_tup (e_var (i := 7) (x := natD v) rfl).one (Nat.le_of_ble_eq_true rfl)).b (o_catT (K := K) (by rw [natsD_len]; show found.length + 1 ≤ 100000; omega))
    have ec : natsD found ++ [natD v] = natsD (found ++ [v]) := by
      unfold natsD
      rw [List.map_append]
      rfl
    rw [ec] at hcat
    have hle : (left.filter fun x => !decide (x = v)).length = left.length - 1 := by
      have := hfp.length_eq
      rw [List.length_cons] at this
      omega
    refine r_tup2 (k_e hl3.e (k_e hcat (k_nil ⟨_, _, rfl, Nat.le_of_ble_eq_true rfl, Nat.le_of_ble_eq_true rfl, left.length - 1, by omega, left.filter fun x => !decide (x = v), found ++ [v], some (.d (natsL ((as.filter fun p => decide (p.1 ∈ left)).map Prod.snd))), some (.d (natD v)), s8, s9, s10, hle.symm, Pl.step hlt hv1 hv2 hfp, ?_⟩)))
    rw [hle]
    rfl
  · have hne : left = [] := by simpa using hb
    subst hne
    obtain ⟨h1, h2⟩ := Pl.done hlt2
    exact r_ret (x := natsT found) (e_var rfl) ⟨rfl, found, h1, h2, rfl⟩
theorem ok_lalong (T : Tx K mg) : FnOk P w K mg base CX0 3 T.l_along.f T.l_along.fd P_l_along sp_lalong :=
  T.l_along.F.ok (k := 2) sc_l_along (len_T fun _ => rfl) fun cdv A outer s H vs Q E hr h => ⟨_, dv_l_along T ((ok_larr T).mono (by decide)) (ok_of T) hr, fn_T (N := N_l_along) run_lalong vs H Q E h⟩
end
end Lw
set_option Elab.async false
set_option linter.all false
set_option maxRecDepth 100000
set_option maxHeartbeats 4000000
/-! NoGuest: over LookupError, its __init__ says super().__init__(guest), then self.guest = guest -/
namespace PySem
namespace NgX
open PySem.W PySem.Calls PyProof.Rows PySem.HandSPX
abbrev leTail : List Value := [.type "LookupError", .type "Exception", .type "BaseException", .type "object"]
def ngInit : Stmt := match PySem.Challenge.pw_leftwithout_k21_whole_orders_for_outcome.main.body.getD 1 (.Pass ⟨0, 0, 0, 0⟩) with
  | .ClassDef _ _ _ body _ _ _ _ _ _ _ => body.getD 0 (.Pass ⟨0, 0, 0, 0⟩)
  | st => st
abbrev nA : Arguments := L2.defArgs ngInit
abbrev nB : List Stmt := L2.defBody ngInit
abbrev nS : Scope := L2.defScope ngInit
/-- what the written part says of NoGuest, at C, of its __init__, at fI, of that one's cell and code -/
structure NgTxt (prog : Program) (K : Frag) (mg : Str → Option Value) (C fI cc cda : Addr) : Prop where
  gC : mg "NoGuest" = some (.ref C)
  cls : ∃ nm q N bs sn sub ab col dd k0 k1 k2 k3 k5, K.lookup C = some (excClassObj nm q C N bs leTail true sn sub ab col dd k0 k1 k2 k3 k5 "LookupError.__new__")
  sa : findIn K (.ref C) "__setattr__" = some (some (.builtin "object.__setattr__"))
  ga : findIn K (.ref C) "__getattribute__" = some (some (.builtin "BaseException.__getattribute__"))
  gg : findIn K (.ref C) "__getattr__" = some none
  noN : findIn K (.ref C) "guest" = some none
  iC : findIn K (.ref C) "__init__" = some (some (.ref fI))
  tC : typeIn K (.ref fI) = some (.type "function")
  kC : keepIn K (.ref C) = true
  exC : subIn K (.ref C) (.type "BaseException") = some true
  leC : subIn K (.ref C) (.type "LookupError") = some true
  mC : mroIn K C (.ref C) = some true
  tyC : typeIn K (.ref C) = some (.type "type")
  hdC : hasDictIn K C = true
  op : nsIn K cStatics "thirdparty.any" = some none
  sup : mg "super" = none
  fn : ∃ (oc : Value) (od : Option Addr) (doc pm : Value) (an : Option Addr) (ct : Value) (osl : Array (Option Value)),
    K.lookup fI = some ⟨oc, od, .func (ksFn "__init__" "NoGuest.__init__" nA nB nS .none .none doc pm an (.ref cda) ct cc), osl⟩ ∧ codeIn K (.ref cda) "NoGuest.__init__" = true
  code : ∃ (ccl : Value) (cdd : Option Addr) (vs : Array Value) (ccs : Array (Option Value)) (file : Str) (tf : Tok), K.lookup cda = some ⟨ccl, cdd, .fields vs, ccs⟩ ∧ vs[2]? = some (.str file tf) ∧ ((prog.main.file : Str) == file) = true
  cell : ∃ (cl : Value) (cld : Option Addr) (csl : Array (Option Value)), K.lookup cc = some ⟨cl, cld, .cell (some (.ref C)), csl⟩
  top : (prog.main.scope.names.lookup ("super" : Str)).isSome = false
/-- what __init__ leaves of a fresh exception at x -/
structure NgEnd (h h' : Heap) (x C dx t1 : Addr) (v : Value) : Prop where
  keep : ∀ b o, b ≠ x → h.get? b = some o → h'.get? b = some o
  obj : h'.get? x = some { cls := .ref C, dict := some dx, data := .fields #[.ref t1, .none, .none, .none, .bool false, .none] }
  dbig : h.objs.size ≤ dx
  dne : dx ≠ x
  ns : h'.Ns1 dx (fun y => if y = "guest" then some v else none)
structure NgMade (h h' : Heap) (e C d : Addr) (v : Value) : Prop where
  keep : ∀ b o, h.get? b = some o → h'.get? b = some o
  new : h.objs.size ≤ e
  obj : ∃ oe vs, h'.get? e = some oe ∧ oe.cls = .ref C ∧ oe.dict = some d ∧ oe.data = .fields vs ∧ vs[1]? = some .none
  dbig : h.objs.size ≤ d
  dne : d ≠ e
  ns : h'.Ns1 d (fun y => if y = "guest" then some v else none)
section
open Builtin Builtin.ObjectAttr
variable {prog : Program} {w : World} {A : Around} {E : Value → Shared → Prop} {R : Result → Shared → Prop} {hp : Heap} {g : Array GenState} {d : Drawn} {t : Nat} {os : OsState}
/-- self.name = v on such an exception, which has no dict yet -/
theorem ng_osa {K : W.Frag} {name : Str} {tk : Tok} {v : Value} {x C : Addr} {fv : Array Value} {cd : ClassData}
    (X : K.In hp) (hx : hp.get? x = some { cls := .ref C, data := .fields fv }) (hcd : W.clsIn K C = some cd) (hm : cd.mro = .ref C :: leTail) (hh : cd.hasDict = true) (ha : W.findIn K (.ref C) name = some none)
    (hq : ∀ h' tk' dx, (∀ b o, b ≠ x → hp.get? b = some o → h'.get? b = some o) → hp.objs.size ≤ dx → dx ≠ x → h'.get? x = some { cls := .ref C, dict := some dx, data := .fields fv } →
      h'.Ns1 dx (fun y => if y = name then some v else none) → R (.ok (.ret .none)) ⟨h', g, d, tk', os⟩) :
    codeAny (model prog w) A (.call (.builtin "object.__setattr__") ⟨[.ref x, .str name tk, v], []⟩) R ⟨hp, g, d, t, os⟩ := by
  have I : W.InstAt hp x { cls := .ref C, data := .fields fv } C none := ⟨hx, rfl, rfl, trivial⟩
  have SF := F.store_object
  have hxs : x ≠ hp.objs.size := Nat.ne_of_lt (Heap.lt_size hx)
  have hob : W.mroIn K C (.type "object") = some true := by
    unfold W.mroIn
    rw [hcd, Option.bind_some, hm]
    rfl
  have sub : W.Looks (model prog w) hp (isInstance (.ref x) (.type "object")) true := I.type.andThen (W.looks_mroIn X hob)
  refine codeAny_call_builtin SF.slot.plain SF.entry (@W.check_slot (model prog w) _ _ ⟨hp, g, d, t, os⟩ "object.__setattr__" "object" "__setattr__" (.ref x) [.str name tk, v] [] _ SF.kind SF.split sub (SF.args (.ref x) (.str name tk) v) ?_)
  have hmr : W.Looks (model prog w) hp (mroOf (.ref C)) cd.mro := (W.looks_clsIn X hcd).andThen .now
  have L3 : W.Looks (model prog w) hp (storeTaker? none) none := .now
  have hcls : W.Looks (model prog w) hp (classData C) cd := W.looks_clsIn X hcd
  have hpass : refuseLoop (.ref x) "__setattr__" cd.mro = pure () := by
    rw [hm, refuseLoop_ref]
    exact F.store_LookupError.passes _
  rw [W.osa_eq, refuse_eq]
  refine wpAny_bind (wpAny_bind (I.type.at (wpAny_bind (hmr.at ?_))))
  rw [hpass]
  refine wpAny_pure (wpAny_bind (I.type.at (wpAny_bind ((W.looks_findIn X ha).at (wpAny_bind (L3.at ?_))))))
  show wpAny _ _ (storeInOwnDict (.ref x) (.ref C) (.str name tk) name v false) _ _ _
  obtain ⟨nm, bs, mro, ns, qn, hd, sn, sb, ab, col, del⟩ := cd
  dsimp only at hh
  subst hh
  unfold storeInOwnDict ownDictForStores
  repeat (first | with_reducible refine HandSPX.store_in_new ?_ ?_ | with_reducible refine wpAny_loadPart_at hx ?_ | with_reducible refine hcls.at ?_ | wp_step)
  · exact ⟨_, #[], _, (Heap.get?_update_ne _ _ _ _ hxs.symm).trans (Heap.get?_push_at rfl rfl), rfl, fun e he => absurd he (by simp), fun _ => rfl⟩
  · intro h' tk' hn' hs
    have hx₁ : (hp.push { cls := .type "dict", data := .dict #[] }).get? x = some { cls := .ref C, data := .fields fv } := Heap.get?_push_of_some _ hx
    refine hq h' tk' hp.objs.size (fun b o hb ho => ?_) (Nat.le_refl _) hxs.symm ?_ hn'
    · exact (hs.2 b (Nat.ne_of_lt (Heap.lt_size ho))).trans ((Heap.get?_update_ne _ _ _ _ hb).trans (Heap.get?_push_of_some _ ho))
    · exact (hs.2 x hxs).trans (Heap.get?_update_self _ hx₁ rfl)
end
section
variable {prog : Program} {w : World} {A : Around} {E : Value → Shared → Prop} {R : Result → Shared → Prop} {s : Shared} {K : Frag} {mg mb : Str → Option Value} {C fI cc cda : Addr}
theorem ldE {M : Model} {A : Around} {E : Value → Shared → Prop} {s : Shared} {env : Env} {m : Str → Option Value} {x : Str} {pos : Pos} {v : Value} {Q : Value → Shared → Prop} (hn : s.heap.Ns env.locals m) (hv : m x = some v) (hk : env.scope.kind = .function) (hl : env.kindOf x = some .local) (hd : (x == ("__debug__" : Str)) = false) (h : Q v s) :
    wpAny M A (eval (.Name x pos) env) Q E s := wpAny_Name (wpAny_loadName_local hk hl hn hv h) hd
/-- the built-in __init__, bound to x, called -/
theorem ng_base {x u t0 : Addr} {v : Value} {Q : Value → Shared → Prop} {nm q : Str} {N : Addr} {bs : List Value} {sn : List Str} {sub : List Value} {ab : Bool} {col : Option Bool} {dd : Option Addr} {k0 k1 k2 k3 k5 : Option Value}
    (hC : s.heap.get? C = some (excClassObj nm q C N bs leTail true sn sub ab col dd k0 k1 k2 k3 k5 "LookupError.__new__")) (hx : s.heap.get? x = some (excO C t0)) (hu : s.heap.get? u = some (kxs_mw "LookupError.__init__" x))
    (hq : ∀ h' t1, (∀ b o, b ≠ x → s.heap.get? b = some o → h'.get? b = some o) → h'.get? x = some (excO C t1) → Q .none { s with heap := h' }) : wpAny (model prog w) A (call (.ref u) [v]) Q E s := by
  obtain ⟨hh, g, d, tk, os⟩ := s
  have FB := F.excBase_LookupError
  refine wpAny_call (codeAny_of_tree ?_)
  show wpAny _ A.in1 (callAny (.ref u) ⟨[v], []⟩) _ _ _
  simp only [callAny]
  refine wpAny_bind (wpAny_load hu ?_)
  simp only [kxs_mw, show (Value.type "method-wrapper" == Value.type "method" || Value.type "method-wrapper" == Value.type "builtin_function_or_method" || Value.type "method-wrapper" == Value.type "method-wrapper") = true by decide, if_true]
  refine KFB.if_so (by decide) ?_
  refine wpAny_bind (check_bound_init FB.toExcCallFacts hC hx rfl ?_)
  refine wpAny_bind (wpAny_pure (wpAny_pure ?_))
  refine ⟨plainId_quiet FB.init.plain _, codeAny_builtin FB.initEntry ?_⟩
  exact exc_init_tree (cls := .ref C) (t0 := t0) (dv := none) (c2 := .none) (c3 := .none) (b4 := .bool false) hx (by show 1 ≤ sizeLine; decide) fun h' k e' _ => hq h' _ k e'
theorem ng_init (T : NgTxt prog K mg C fI cc cda) {x t0 : Addr} {v : Value} (X : K.In s.heap) (hlim : s.heap.NoLimit) (hG : s.heap.Ns mainGlobals mg) (hB : s.heap.Ns builtinsNs mb) (hbs : mb "super" = some (.type "super")) (hx : s.heap.get? x = some (excO C t0)) (hnx : K.lookup x = none) (hroom : A.depth < recursionLimit)
    (hq : ∀ h' tk dx t1, NgEnd s.heap h' x C dx t1 v → R (.ok (.ret .none)) { s with heap := h', toks := tk }) :
    codeAny (model prog w) A (.call (.ref fI) ⟨[.ref x, v], []⟩) R s := by
  obtain ⟨oc, od, doc, pm, an, ct, osl, ho, hcd⟩ := T.fn
  obtain ⟨nm, q, N, bs, sn, sub, ab, col, dd, k0, k1, k2, k3, k5, hC⟩ := T.cls
  obtain ⟨ccl, cdd, vs, ccs, file, tf, hco, hvs, hfile⟩ := T.code
  obtain ⟨cl, cld, csl, hce⟩ := T.cell
  have hcl : clsIn K C = some { name := nm, bases := bs, mro := .ref C :: leTail, ns := N, qualname := q, hasDict := true, slotNames := sn, subclasses := sub, abstract := ab, collection := col, hasDel := false } := by unfold clsIn; rw [hC] <;> rfl
  refine ks_codeAny_call_defAt (fd := ksFn "__init__" "NoGuest.__init__" nA nB nS .none .none doc pm an (.ref cda) ct cc) (body := nB) (binds := [("self", .ref x), ("guest", v)]) hroom (X _ _ ho) rfl hlim (codeRec_of X hcd) rfl
    (BindsTo.of_eq (by first | rfl | with_unfolding_all rfl)) (show ∀ y ∈ nS.names, y.2 ≠ .cell by decide) (fun y hy => by
      rcases List.mem_cons.mp hy with e | hy
      · subst e; first | rfl | kernel_rfl
      · rcases List.mem_cons.mp hy with e | hy
        · subst e; first | rfl | kernel_rfl
        · simp at hy) (fun h₁ hns hk₁ => ?_)
  have X₁ : K.In h₁ := X.keeps hk₁
  have hx₁ := hk₁ _ _ hx
  have hC₁ := X₁ _ _ hC
  have hns' : h₁.Ns s.heap.objs.size (fun y => ([("self", Value.ref x), ("guest", v)] : List (Str × Value)).reverse.lookup y) := hns
  show wpAt (model prog w) _ (.func _ (ksEnv "NoGuest.__init__" nS s.heap.objs.size fI (.ref cda) cc)) (execs nB (ksEnv "NoGuest.__init__" nS s.heap.objs.size fI (.ref cda) cc)) _ _ _
  have eG : ∀ {h' : Heap}, (∀ b o, s.heap.get? b = some o → h'.get? b = some o) → h'.Ns mainGlobals mg := fun k => hG.keeps k
  have hlk : ∀ {y : Str} {u : Value}, ([("self", Value.ref x), ("guest", v)] : List (Str × Value)).reverse.lookup y = some u → ([("self", Value.ref x), ("guest", v)] : List (Str × Value)).reverse.lookup y = some u := fun h => h
  refine ks_wpAt_execs_cons (ks_wpAt_Expr_any (ks_wpAt_MethodCall ?_ (by with_unfolding_all rfl)))
  refine ks_wpAt_super_base (env := ksEnv "NoGuest.__init__" nS s.heap.objs.size fI (.ref cda) cc) (by rfl) (by rfl) (by decide) rfl (X₁ _ _ ho) rfl (by rfl) rfl (X₁ _ _ hco) rfl hvs hfile T.top ?_
  refine ks_loadName_global (by rfl) (by rfl) (loadGlobal_builtin (env := ksEnv "NoGuest.__init__" nS s.heap.objs.size fI (.ref cda) cc) (hG.keeps hk₁) T.sup (hB.keeps hk₁) hbs ⟨rfl, ?_⟩)
  refine wpAny_loadName_free (by rfl) (by rfl) (by rfl) ⟨_, X₁ _ _ hce, rfl⟩ ?_
  refine wpAny_loadName_local (v := .ref x) (by rfl) (by rfl) hns' (by first | rfl | kernel_rfl) ?_
  refine ks_wpAny_isType_cls hC₁ rfl ⟨rfl, ?_⟩
  refine ks_wpAny_call_super hC₁ rfl hx₁ rfl (fun c e => by cases e) (looks_mroIn X₁ T.mC) (fun h₂ e₂ k₂ => ?_)
  have X₂ : K.In h₂ := X₁.keeps k₂
  have hx₂ := k₂ _ _ hx₁
  have hC₂ := k₂ _ _ hC₁
  have I₂ : InstAt h₂ x (excO C t0) C none := ⟨hx₂, rfl, rfl, trivial⟩
  refine kxs_getMethod kxs_LookupError e₂ (looks_opaque X₂ T.op) (l₀ := .ref C :: leTail) ?_ (by simp [List.dropWhile_cons]) X₂ (l := leTail) (by kernel_rfl) (I₂.type.andThen (looks_subIn X₂ T.leC)) (fun e => ?_) (by decide) ?_
  · exact fun A Q E s k q => wpAny_bind ((looks_clsIn X₂ hcl) A _ E s k (wpAny_pure q))
  · rw [e, hC₂] at hx₂
    cases hx₂
  -- the bound __init__ is called with guest
  have k₃ : ∀ b o, h₂.get? b = some o → (h₂.push (kxs_mw "LookupError.__init__" x)).get? b = some o := fun b o e => Heap.get?_push_of_some _ e
  have hu : (h₂.push (kxs_mw "LookupError.__init__" x)).get? h₂.objs.size = some (kxs_mw "LookupError.__init__" x) := Heap.get?_push_size _ rfl
  have hns₂ := (hns'.keeps k₂).keeps k₃
  refine kxs_callWith (i := "LookupError.__init__") (x := x) (by rfl) (evalArgs_plain ?_)
  refine args_cons (ldE (v := v) hns₂ (by first | rfl | kernel_rfl) (by rfl) (by rfl) (by decide) (args_nil ?_)) (by rfl)
  refine ⟨hu, ?_⟩
  refine ng_base (k₃ _ _ hC₂) (k₃ _ _ hx₂) hu fun h₄ t1 k₄ hx₄ => ?_
  have up : ∀ b o, b ≠ x → h₁.get? b = some o → h₄.get? b = some o := fun b o hb e => k₄ b o hb (k₃ b o (k₂ b o e))
  have hxL : s.heap.objs.size ≠ x := Nat.ne_of_gt (Heap.lt_size hx)
  have X₄ : K.In h₄ := fun a o e => up a o (fun z => by
    have e' : K.lookup a = some o := e
    rw [z, hnx] at e'
    cases e') (X₁ _ _ e)
  have hns₄ : h₄.Ns s.heap.objs.size (fun y => ([("self", Value.ref x), ("guest", v)] : List (Str × Value)).reverse.lookup y) := hns'.at' fun o q => up _ o hxL q
  show wpAt (model prog w) _ (.func _ (ksEnv "NoGuest.__init__" nS s.heap.objs.size fI (.ref cda) cc)) (execs _ (ksEnv "NoGuest.__init__" nS s.heap.objs.size fI (.ref cda) cc)) _ _ _
  refine ks_wpAt_execs_cons (ks_wpAt_Assign_Attr (wpAt_of_wpAny (ldE (v := v) hns₄ (by first | rfl | kernel_rfl) (by rfl) (by rfl) (by decide) (ldE (v := .ref x) hns₄ (by first | rfl | kernel_rfl) (by rfl) (by rfl) (by decide) ?_))))
  refine set_plain X₄ (ox := excO C t1) (od := none) ⟨hx₄, rfl, rfl, trivial⟩ T.sa ?_
  refine ng_osa X₄ hx₄ hcl rfl rfl T.noN (fun h₅ tk₅ dx k₅ dn dne hx₅ hn₅ => ?_)
  show wpAt _ _ _ (execs _ _) _ _ _
  have z : s.heap.objs.size < h₁.objs.size := hns'.lt
  have z4 : s.heap.objs.size < h₄.objs.size := hns₄.lt
  refine wpAt_of_wpAny (wpAny_execs_nil (hq h₅ tk₅ dx t1 ⟨fun b o hb e => k₅ b o hb (up b o hb (hk₁ b o e)), hx₅, Nat.le_of_lt (Nat.lt_of_lt_of_le z4 dn), dne, hn₅⟩))
theorem ng_made (T : NgTxt prog K mg C fI cc cda) {v : Value} (X : K.In s.heap) (hlim : s.heap.NoLimit) (hG : s.heap.Ns mainGlobals mg) (hB : s.heap.Ns builtinsNs mb) (hbs : mb "super" = some (.type "super")) (hroom : A.depth + 1 < recursionLimit)
    (hq : ∀ h' tk e d, NgMade s.heap h' e C d v → R (.ok (.ret (.ref e))) { s with heap := h', toks := tk }) :
    codeAny (model prog w) A (.call (.ref C) ⟨[v], []⟩) R s := by
  obtain ⟨nm, q, N, bs, sn, sub, ab, col, dd, k0, k1, k2, k3, k5, hC⟩ := T.cls
  obtain ⟨hp, g, dr, tk, os⟩ := s
  have k : ∀ b o, hp.get? b = some o → ((hp.push (kdv_tup [v])).push (excO C hp.objs.size)).get? b = some o := fun b o e => Heap.get?_push_of_some _ (Heap.get?_push_of_some _ e)
  have hget : ((hp.push (kdv_tup [v])).push (excO C hp.objs.size)).get? (hp.objs.size + 1) = some (excO C hp.objs.size) := by heap_get
  have hnx : K.lookup (hp.objs.size + 1) = none := by
    cases e : K.lookup (hp.objs.size + 1) with
    | none => rfl
    | some o =>
      have z : hp.get? (hp.objs.size + 1) = some o := X _ _ e
      exact absurd (Nat.lt_of_succ_lt (Heap.lt_size z)) (Nat.lt_irrefl _)
  refine call_own F.excBase_LookupError (fun _ => rfl) (X _ _ hC) (looks_findIn X T.iC) (fun self => bind_fn X self T.tC) (by show 1 ≤ sizeLine; decide) ?_
  refine ng_init (mb := mb) (s := ⟨(hp.push (kdv_tup [v])).push (excO C hp.objs.size), g, dr, tk, os⟩) T (X.keeps k) (hlim.keeps k) (hG.keeps k) (hB.keeps k) hbs hget hnx ?_ fun h' tk' dx t1 ⟨k', hx, dn, dne, hns⟩ => ?_
  · show A.depth + 1 < recursionLimit
    exact hroom
  · have old : ∀ b o, hp.get? b = some o → h'.get? b = some o := fun b o e => k' b o (Nat.ne_of_lt (Nat.lt_succ_of_lt (Heap.lt_size e))) (k b o e)
    have z : hp.objs.size + 1 + 1 ≤ dx := by
      first
        | (simpa only [Heap.size_push] using dn)
        | exact dn
        | (have q := dn; rw [Heap.size_push, Heap.size_push] at q; exact q)
    exact ⟨rfl, hq h' tk' (hp.objs.size + 1) dx ⟨old, Nat.le_succ _, ⟨_, _, hx, rfl, rfl, rfl, rfl⟩, Nat.le_trans (Nat.le_trans (Nat.le_succ _) (Nat.le_succ _)) z, dne, hns⟩⟩
end
end NgX
end PySem
namespace Lw
open PySem PySem.Spec PyProof.Rows L2
theorem relO_ng {v : V} {v' : Value} (r : RelV v v') (f : Str) : RelO (List.lookup f [(("guest" : Str), v)]) (if f = "guest" then some v' else none) := by
  by_cases hw : f = "guest"
  · subst hw
    rw [if_pos rfl]
    have q : List.lookup ("guest" : Str) [(("guest" : Str), v)] = some v := by simp [List.lookup]
    rw [q]
    exact r
  · rw [if_neg hw]
    have qw : (f == ("guest" : Str)) = false := by simpa using hw
    have q2 : List.lookup f [(("guest" : Str), v)] = none := by simp [List.lookup, qw]
    rw [q2]
    trivial
section
variable {X : Cx} {C fI cc cda : Addr}
/-- NoGuest(e) -/
def tMkNg (C : Addr) (ta : TA) : L2.St → Hp → XK → Prop := fun σ H Q => ta σ H fun vs H1 => ∃ v, vs = [v] ∧ ∀ d, H1 d = none → Q (.ref C) (some d) (upd H1 d (.xd [(("guest" : Str), v)]))
theorem pmk_ng {a : Expr} {ta : TA} {p pos : Pos} {k : Nat} (T : NgX.NgTxt X.prog X.K X.mg C fI cc cda) (hr : Room k X.A) (ha : PA X [a] ta) (hg : Gl X "NoGuest")
    (he : starEach (a :: []) X.env = (false, eval a X.env) :: starEach [] X.env := by rfl) (hpl : (backTo pos (starEach [] X.env)).any (·.1) = false := by rfl) :
    PMk X (.Call (.Name "NoGuest" p) [a] [] pos) (tMkNg C ta) := by
  intro pins s σ H Q I h
  refine wpAny_Call_Name_kw (ld_glob I hg T.gC ?_)
  refine PySem.W.callWith_K (h₀ := X.base) I.ok.mod.kin T.kC (thn (ha.run pos pins s σ H _ I h) fun us s1 hh => ?_) he hpl
  obtain ⟨vs, H1, I1, r1, v, ev, q1⟩ := hh
  subst ev
  refine ⟨I1.kIn, ?_⟩
  cases r1 with
  | cons rv rn =>
    rename_i v' us'
    cases rn
    show wpAny _ _ (call (.ref C) [v']) _ _ _
    have hlim := I1.nolimit
    have hG := I1.mod.glob.keeps I1.bk
    obtain ⟨mb, hB, hb2⟩ := I1.mod.blt
    have hB := hB.keeps I1.bk
    have hbs : mb "super" = some (.type "super") := (hb2 "super" (by decide)).trans (by decide +kernel)
    obtain ⟨hp, g, d, t, os⟩ := s1
    refine wpAny_call (NgX.ng_made (mb := mb) T I1.kIn hlim hG hB hbs (by have := hr.dp; omega) fun h' tk' e d M => ?_)
    show MkP X pins σ Q (.ref e) ⟨h', g, _, tk', os⟩
    obtain ⟨oe, fv, hoe, hc, hd, hdat, h1⟩ := M.obj
    have hns := M.ns
    obtain ⟨G', g1, g2⟩ := restrict h' fun b => decide (b ≠ e)
    have gk : ∀ b, b ≠ e → G'.get? b = h'.get? b := fun b hb => g1 b (decide_eq_true hb)
    have ge : G'.get? e = none := g2 e (by simp)
    have old : ∀ b o, hp.get? b = some o → G'.get? b = some o := fun b o q => (gk b (Nat.ne_of_lt (Nat.lt_of_lt_of_le (Heap.lt_size q) M.new))).trans (M.keep b o q)
    have ob : ObjOk X.prog X.w (upd H1 d (.xd [(("guest" : Str), v)])) G' d (.xd [(("guest" : Str), v)]) :=
      ⟨_, hns.at (fun o q => (gk d M.dne).trans q), fun f => relO_ng rv f⟩
    have J : Inv X pins σ (upd H1 d (.xd [(("guest" : Str), v)])) ⟨G', g, _, tk', os⟩ := I1.laid (t' := tk') old M.dbig ob
    refine ⟨e, oe, fv, ⟨G', g, _, tk', os⟩, _, .ref C, some d, rfl, J, fun b o q => ?_, ge, hoe, ⟨hc, hd⟩, hdat, h1, ?_, rfl, I1.bare, raises_own T.exC T.tyC, q1 d (I1.hok.fresh M.dbig)⟩
    · by_cases hb : b = e
      · have q' : G'.get? b = some o := q
        rw [hb, ge] at q'; cases q'
      · exact (gk b hb).symm.trans q
    · rw [upd_ne (Ne.symm M.dne)]
      exact I1.hok.fresh M.new
/-- raise NoGuest(e) -/
def tRaiseNg (C : Addr) (W : WX) (ta : TA) : TS := fun _ σ H => tMkNg C ta σ H fun cls d H' => W cls d σ H'
theorem ps_raiseNg {a : Expr} {ta : TA} {W : WX} {p pos pos2 : Pos} {k : Nat} (hc : X.calm = true) (T : NgX.NgTxt X.prog X.K X.mg C fI cc cda) (hr : Room k X.A) (tk : Takes X W) (ha : PA X [a] ta) (hg : Gl X "NoGuest")
    (he : starEach (a :: []) X.env = (false, eval a X.env) :: starEach [] X.env := by rfl) (hpl : (backTo pos (starEach [] X.env)).any (·.1) = false := by rfl) :
    PS X (.Raise (some (.Call (.Name "NoGuest" p) [a] [] pos)) none pos2) (tRaiseNg C W ta) := ps_raise hc tk (pmk_ng T hr ha hg he hpl)
/-- e.guest, e the error that the suite holds -/
def tGuest (C : Addr) (a : Addr) (cls : Value) (d : Option Addr) (te : TE) : TE := fun σ H Q => te σ H fun x H1 => x = .ref a ∧ cls = .ref C ∧ ∃ (dd : Addr) (v : V), d = some dd ∧ H1 dd = some (.xd [(("guest" : Str), v)]) ∧ Q v H1
theorem pe_guest {a : Addr} {oe : Obj} {cls : Value} {d : Option Addr} {pn : List (Addr × Obj)} {e : Expr} {te : TE} {pos : Pos} (T : NgX.NgTxt X.prog X.K X.mg C fI cc cda) (hz : Zc cls d oe) (hf : ∃ vs, oe.data = .fields vs) (he : PE (X.suite a ((a, oe) :: pn)) e te)
    (hb : attributeBase e "guest" X.env (eval e X.env) = eval e X.env := by rfl) :
    PE (X.suite a ((a, oe) :: pn)) (.Attribute e "guest" pos) (tGuest C a cls d te) := by
  refine ⟨fun pins s σ H Q I h => ?_⟩
  refine attr_of hb (thn (he.run pins s σ H _ I h) fun u s1 hh => ?_)
  obtain ⟨x, H1, I1, rx, ex, ec, dd, v, ed, ea, q⟩ := hh
  subst ex
  obtain rfl : u = Value.ref a := rx
  subst ec
  subst ed
  obtain ⟨ha, _⟩ := I1.pin (a, oe) (List.mem_append_left _ List.mem_cons_self)
  obtain ⟨vs, hd⟩ := hf
  have hx : ObjOk X.prog X.w H1 s1.heap dd (.xd [(("guest" : Str), v)]) := I1.hok dd _ ea
  obtain ⟨mA, hns, hr⟩ := hx
  obtain ⟨od, ho, hl⟩ := lookIn_ns hns
  have l : List.lookup ("guest" : Str) [(("guest" : Str), v)] = some v := by simp [List.lookup]
  obtain ⟨u, hu, ru⟩ := RelO.some_of (v := v) (o := mA "guest") (by rw [← l]; exact hr "guest")
  have J : PySem.W.InstAt s1.heap a oe C (some od) := ⟨ha, hz.1, by unfold PySem.W.notCls; rw [hd] <;> rfl, by rw [hz.2]; exact ho⟩
  exact HandSPX.exc_get I1.kIn J T.ga T.gg T.exC (PySem.W.findObj_own T.hdC T.noN rfl (by rw [hl, hu])) (handed_of ru) ⟨v, H1, I1.tok _, ru, q⟩
end
end Lw
set_option Elab.async false
set_option linter.all false
set_option maxRecDepth 100000
set_option maxHeartbeats 4000000
namespace Lw
open PySem PySem.Spec PyProof.Rows L2
section
variable {X : Cx} {C : Addr} {bmB : List Value} {B newId initId : String}
/-- X(), X an own exception class without own __init__ -/
theorem pmk_own0 {x : Str} {p pos : Pos} (F : ExcBaseFacts B newId initId bmB) (q : PySem.W.excIn X.K C bmB newId = true) (gC : X.mg x = some (.ref C)) (kC : PySem.W.keepIn X.K (.ref C) = true) (r : Raises X (.ref C)) (hg : Gl X x)
    (hdb : (x == ("__debug__" : Str)) = false := by decide) : PMk X (.Call (.Name x p) [] [] pos) (fun _ H Q => Q (.ref C) none H) := by
  intro pins s σ H Q I h
  refine wpAny_Call_Name_kw (ld_glob I hg gC ?_ hdb)
  refine PySem.W.callWith_K0 I.kIn kC ?_
  obtain ⟨bm, N, nm, qn, bs, hdct, sn, sub, ab, col, dd, k0, k1, k2, k3, k5, mN, hC, hN, hni, T⟩ := exc_obj I.kIn q
  refine wpAny_call_exc_subT F T hC hN hni (fun h' e hm => ?_) (Nat.zero_le _)
  exact mk_of I hm r h (I.hok.gone hm.new)
end
/-! ### several clauses, each with a name -/
/-- what they wish of an exception of the body, one after the other: slot i is the clause's name's -/
def wManyAs (K : PySem.W.Frag) (Wout : WX) (D : Ends) : List (Value × Nat × (Addr → Value → Option Addr → TS)) → WX
  | [] => Wout
  | (c, i, ts) :: r => fun cls d σ H => ∃ b, PySem.W.exmOne K cls c = some b ∧
    (b = true → ∀ a, H a = none → ts a cls d { nx := fun σ' H' => D.nx (σ'.set i none) H', rt := D.rt, bk := fun σ' H' => D.bk (σ'.set i none) H', ct := fun σ' H' => D.ct (σ'.set i none) H' } (σ.set i (some (.ref a))) H) ∧ (b = false → wManyAs K Wout D r cls d σ H)
inductive HdsAs (X : Cx) : List ExceptHandler → List (Value × Nat × (Addr → Value → Option Addr → TS)) → Prop
  | nil : HdsAs X [] []
  | cons {x n : Str} {c : Value} {i : Nat} {ts : Addr → Value → Option Addr → TS} {b₀ : Stmt} {suite : List Stmt} {np pos' : Pos} {hds : List ExceptHandler} {l : List (Value × Nat × (Addr → Value → Option Addr → TS))} (hi : X.N[i]? = some n) (hln : X.env.kindOf n = some .local) (hc : Names X x c)
      (hsu : ∀ (a : Addr) (oe : Obj) (cls : Value) (d : Option Addr) (pn : List (Addr × Obj)), Zc cls d oe → (∃ vs, oe.data = .fields vs) → PSs (X.suite a ((a, oe) :: pn)) (b₀ :: suite) (ts a cls d)) (r : HdsAs X hds l) :
      HdsAs X (.ExceptHandler (some (.Name x np)) (some n) (b₀ :: suite) pos' :: hds) ((c, i, ts) :: l)
section
variable {X : Cx} {body : List Stmt} {h₀ : ExceptHandler} {hds : List ExceptHandler} {l : List (Value × Nat × (Addr → Value → Option Addr → TS))} {pos : Pos} {tb : WX → TS} {Wout : WX}
theorem ps_try_manyAs (hs : X.stack = X.env :: X.outer) (hf : X.env.frame = some X.env.locals) (hN : X.N.Nodup) (tk : Takes X Wout)
    (hb : ∀ (W : WX) (pn : List (Addr × Obj)) (xe : Value → Shared → Prop), Takes (X.tr pn xe) W → PassesOwn (model X.prog X.w) X.A X.env xe → PSs (X.tr pn xe) body (tb W))
    (hh : HdsAs X (h₀ :: hds) l) : PS X (.Try body (h₀ :: hds) [] [] pos) (fun D σ H => tb (wManyAs X.K Wout D l) D σ H) := by
  refine ⟨fun pins s σ H D I h => ?_⟩
  have ok := I.ok
  have hfr : X.A.frames = some (X.env :: X.outer) := by rw [ok.frames, hs]
  refine wpAny_Try_except ?_
  refine wpAny_mono ((hb (wManyAs X.K Wout D l) (X.pn ++ pins) (fun e s₁ => wpAny (model X.prog X.w) X.A (noteFrame e X.env) (fun _ s₂ => wpAny (model X.prog X.w) X.A (setFlight e none) (fun _ s₃ =>
    wpAny (model X.prog X.w) X.A (handleBy e X.env (h₀ :: hds)) (SP X pins D) X.xe s₃) X.xe s₂) X.xe s₁) (fun u s' xx => ?_) PassesOwn.looking).run [] s σ H D (I.toTry _) h) (fun f s1 hsp => ?_) (fun e s1 he => he)
  · -- the catch
    obtain ⟨a, B, sI, pins', σ', H', cls, d, rfl, J', nb, up, sky, na, os, ag, w⟩ := xx
    have J : Inv X pins σ' H' sI := J'.ofTry ok
    have sky' : Sky B (X.env :: X.outer) a (Zc cls d) X.env.locals s'.heap := by rw [← hs]; exact sky
    show wpAny (model X.prog X.w) X.A (noteFrame (.ref a) X.env) _ _ _
    refine Sky.land Zc.steady hfr hf sky' fun h3 fl3 up3 => ?_
    have J3 : Inv X pins σ' H' { s' with heap := h3 } := J.landed nb fl3.1 (up.trans up3) os ag
    obtain ⟨oe3, vs3, he3, hz3, hd3⟩ := fl3.there
    have notFr : ∀ {h : Heap} {o : Obj} {vs : Array Value}, h.FunFrames B (X.env :: X.outer) → h.get? a = some o → o.data = .fields vs → a ∉ frs (X.env :: X.outer) := fun {h o vs} ff e dd hm => by
      obtain ⟨_, o', e', hnf⟩ := ff.mem hm
      rw [e] at e'; cases e'
      exact hnf _ dd
    have nfr := notFr fl3.2.2.1 he3 hd3
    have nL : a ≠ X.env.locals := fun z => nfr (List.mem_filterMap.mpr ⟨X.env, List.mem_cons_self, by rw [hf, z]⟩)
    have nF : a ∉ X.fs := fun hm => by
      obtain ⟨e, he, q⟩ := List.mem_filterMap.mp hm
      exact nfr (List.mem_filterMap.mpr ⟨e, List.mem_cons_of_mem _ he, q⟩)
    have S3 := J3.suite he3 hd3 na nL nF
    have go : ∀ {hds' : List ExceptHandler} {l' : List (Value × Nat × (Addr → Value → Option Addr → TS))}, HdsAs X hds' l' → wManyAs X.K Wout D l' cls d σ' H' →
        wpAny (model X.prog X.w) X.A (handleBy (.ref a) X.env hds') (SP X pins D) X.xe { s' with heap := h3 } := by
      intro hds' l' hk
      induction hk with
      | nil =>
        intro w
        refine wpAny_handleBy_nil ?_
        obtain ⟨k1, k2, k3, oe, vs, T, oT, ts', he, hz, hd, h1, hr⟩ := id fl3
        unfold PySem.passOn
        refine wpAny_bind (wpAny_field he hd h1 ?_)
        rw [if_neg (show ¬ ((Value.ref T == Value.none) = true) from by simp)]
        have fin : wpAny (model X.prog X.w) X.A (setFlight (.ref a) X.env.frame) (fun _ s4 => wpAny (model X.prog X.w) X.A (throw (.ref a) : Sem Flow) (SP X pins D) X.xe s4) X.xe { s' with heap := h3 } := by
          rw [hf]
          refine HandSPX.setFlight_upZ fl3 fun h4 hh4 up4 => wpAny_throw (tk _ _ ?_)
          exact ⟨a, B, sI, pins, σ', H', cls, d, rfl, J, nb, (up.trans up3).trans up4, .inr (.inr (by rw [hs]; exact hh4)), na, os, ag, w⟩
        first
          | exact wpAny_bind (wpAny_pure (wpAny_bind fin))
          | exact wpAny_bind fin
      | @cons x n c i ts b₀ suite np pos' hds2 l2 hi hln hc hsu r ih =>
        intro w
        obtain ⟨b, hb1, hyes, hno⟩ := w
        refine wpAny_handleBy_cons (codeAny_handlers_test ?_) (by intro q; cases q)
        have LT : PySem.W.Looks (model X.prog X.w) h3 (typeOf (.ref a)) cls := fun A Q E s k q => wpAny_typeOf_ref (k _ _ he3) (by rw [hz3.1]; exact q)
        have LM := PySem.W.exm_one (M := model X.prog X.w) (J3.kIn) LT hb1
        have test : ∀ {Q : Value → Shared → Prop} {E : Value → Shared → Prop}, Q c { s' with heap := h3 } → wpAny (model X.prog X.w) (X.A.mark (some (.ref a))) (eval (.Name x np) X.env) Q E { s' with heap := h3 } := fun {Q E} q => by
          obtain ⟨hg, hdbg, hm | ⟨hm, hv, hnn⟩⟩ := hc
          · exact ld_glob (X := X.suite a ((a, oe3) :: (X.pn ++ pins))) S3 hg hm q hdbg
          · exact ld_blt (X := X.suite a ((a, oe3) :: (X.pn ++ pins))) S3 hg hm hv q hnn hdbg
        refine test (LM.here ?_)
        cases b with
        | true =>
          refine codeAny_handlers_suite_as ?_
          refine HandSPX.lands_againZ fl3 fun h4 fl4 up4 => ?_
          have J4 : Inv X pins σ' H' { s' with heap := h4 } := J.landed nb fl4.1 ((up.trans up3).trans up4) os ag
          obtain ⟨oe4, vs4, he4, hz4, hd4⟩ := fl4.there
          have S4 := J4.suite he4 hd4 na nL nF
          refine store_ok (X := X.suite a ((a, oe4) :: (X.pn ++ pins))) (v := .ref a) S4 hN hi (.inl hln) rfl (fun s5 S5 => ?_) (.inr hln)
          refine wpAny_mono ((hsu a oe4 cls d (X.pn ++ pins) hz4 ⟨_, hd4⟩).run [] s5 _ H' _ S5 (hyes rfl a na)) (fun f s6 hsp => ?_) (fun _ _ z => False.elim z)
          have gone : ∀ {σ6 : L2.St} {H6 : Hp} {Q : Shared → Prop}, Inv (X.suite a ((a, oe4) :: (X.pn ++ pins))) [] σ6 H6 s6 → (∀ s7, Inv X pins (σ6.set i none) H6 s7 → Q s7) →
              wpAny (model X.prog X.w) X.A (do bindName X.env n .none; unbindBehindTheSuite X.env n pos') (fun _ s7 => Q s7) X.xe s6 := fun {σ6 H6 Q} S6 hq => gone_ok (S6.unsuite ok) hN hi hln hq
          cases f with
          | next =>
            obtain ⟨σ6, H6, S6, q6⟩ := hsp
            exact gone S6 fun s7 J7 => ⟨_, _, J7, q6⟩
          | brk =>
            obtain ⟨σ6, H6, S6, q6⟩ := hsp
            exact gone S6 fun s7 J7 => ⟨_, _, J7, q6⟩
          | cont =>
            obtain ⟨σ6, H6, S6, q6⟩ := hsp
            exact gone S6 fun s7 J7 => ⟨_, _, J7, q6⟩
          | ret u =>
            obtain ⟨v6, σ6, H6, S6, r6, q6⟩ := hsp
            exact gone S6 fun s7 J7 => ⟨_, _, _, J7, r6, q6⟩
        | false =>
          show wpAny _ X.A (handleBy (.ref a) X.env hds2) _ _ _
          exact ih (hno rfl)
    exact go hh w
  · cases f with
    | next =>
      obtain ⟨σ', H', J', q⟩ := hsp
      exact wpAny_execs_nil ⟨σ', H', J'.ofTry ok, q⟩
    | brk =>
      obtain ⟨σ', H', J', q⟩ := hsp
      exact ⟨σ', H', J'.ofTry ok, q⟩
    | cont =>
      obtain ⟨σ', H', J', q⟩ := hsp
      exact ⟨σ', H', J'.ofTry ok, q⟩
    | ret u =>
      obtain ⟨v, σ', H', J', r, q⟩ := hsp
      exact ⟨v, σ', H', J'.ofTry ok, r, q⟩
end

/-! ### isinstance of a caught error, whose class is under the asked one -/
theorem kia_yes {K : PySem.W.Frag} {D a : Addr} {oe : Obj} {od : Option Obj} {h : Heap} (I : PySem.W.InstAt h a oe D od) : True := trivial
end Lw
set_option Elab.async false
set_option linter.all false
set_option maxRecDepth 100000
set_option maxHeartbeats 1000000
namespace Lw
open PySem PySem.Spec PyProof.Rows L2
/-! ### isinstance of a caught error -/
def rIsE2 (K : PySem.W.Frag) (D a : Addr) (cls : Value) (d : Option Addr) : List V → Hp → VK → Prop := fun xs H Q => ∃ (c : V) (cv : Value) (b : Bool), xs = [.ref a, c] ∧ cls = .ref D ∧ (∀ u, RelV c u → u = cv) ∧ PySem.W.kitOne K (.ref D) cv = some b ∧
  (∀ dd, d = some dd → ∃ fs, H dd = some (.xd fs)) ∧ Q (.bl b) H
theorem call_isE2 {X : Cx} {a D : Addr} {oe : Obj} {cls : Value} {d : Option Addr} {pn : List (Addr × Obj)} (C : ExcC X.K D) (hz : Zc cls d oe) (hf : ∃ vs, oe.data = .fields vs) : CallR (X.suite a ((a, oe) :: pn)) (.builtin "isinstance") (rIsE2 X.K D a cls d) := by
  intro pins s σ H xs us Q I r h
  obtain ⟨c, cv, b, rfl, rfl, hcv, e, hd, q⟩ := h
  cases r with
  | cons rx rr =>
    cases rr with
    | cons rt rr =>
      cases rr
      cases rx
      have ec := hcv _ rt
      subst ec
      obtain ⟨hget, _⟩ := I.pin (a, oe) (List.mem_append.mpr (.inl List.mem_cons_self))
      obtain ⟨vs, hv⟩ := hf
      have hcl : (PySem.W.clsIn X.K D).isSome = true := by
        obtain ⟨cd, hc, _⟩ := PySem.W.any_some C.hd
        rw [hc]
        rfl
      have fin : ∀ od : Option Obj, PySem.W.InstAt s.heap a oe D od → wpAny (model (X.suite a ((a, oe) :: pn)).prog (X.suite a ((a, oe) :: pn)).w) (X.suite a ((a, oe) :: pn)).A (call (.builtin "isinstance") [.ref a, _]) (EP (X.suite a ((a, oe) :: pn)) pins σ Q) (X.suite a ((a, oe) :: pn)).xe s := fun od J =>
        PySem.W.kia_one (PySem.W.kitx_exc hcl C.hg C.hk C.hs C.ha C.hn C.ht C.hm) I.kIn J e (fun z => nomatch z) fun tk => ⟨.bl b, H, I.kept (t' := tk) fun _ _ z => z, rfl, q⟩
      cases d with
      | none => exact fin none ⟨hget, hz.1, by unfold PySem.W.notCls; rw [hv] <;> rfl, by rw [hz.2]; trivial⟩
      | some dd =>
        obtain ⟨fs, hx⟩ := hd dd rfl
        obtain ⟨mA, hns, _⟩ := (show ObjOk X.prog X.w H s.heap dd (.xd fs) from I.hok dd _ hx)
        obtain ⟨od, ho, _⟩ := lookIn_ns hns
        exact fin (some od) ⟨hget, hz.1, by unfold PySem.W.notCls; rw [hv] <;> rfl, by rw [hz.2]; exact ho⟩
/-! ### promises of defs that may raise -/
def spX {ι : Type} (pre : ι → Prop) (args : ι → List D) (res : ι → D → Prop) (exc : ι → Value → Option Addr → Hp → Prop) : Sp := fun vs H Q E => ∃ (G : Hp) (i : ι), Same G H ∧ RpL G vs (args i) ∧ pre i ∧ (∀ v r H' G', Px H G H' G' → Rp G' v r → res i r → Q v H') ∧ ∀ cls d H' G', Px H G H' G' → exc i cls d H' → E cls d H'
theorem len_X {ι : Type} {pre : ι → Prop} {args : ι → List D} {res : ι → D → Prop} {exc : ι → Value → Option Addr → Hp → Prop} {n : Nat} (h : ∀ i, (args i).length = n) : ∀ vs H Q E, spX pre args res exc vs H Q E → vs.length = n := fun vs H Q E ⟨G, i, s, r, _⟩ => by rw [r.len, h i]
abbrev XR := Value → Option Addr → Hp → Prop
def RunX (t : XK → TS) (ρ : Rho) (P : De) (R : XR) : Prop := ∀ σ H G, Ok σ H G ρ → ∀ (D : Ends) (E : XK),
  (∀ σ' ρ' H' G', Tr σ ρ H G σ' ρ' H' G' → Ok σ' H' G' ρ' → P.nx ρ' → D.nx σ' H') →
  (∀ v d σ' ρ' H' G', Tr σ ρ H G σ' ρ' H' G' → Ok σ' H' G' ρ' → Rp G' v d → P.rt ρ' d → D.rt v H') →
  (∀ σ' ρ' H' G', Tr σ ρ H G σ' ρ' H' G' → Ok σ' H' G' ρ' → P.bk ρ' → D.bk σ' H') →
  (∀ σ' ρ' H' G', Tr σ ρ H G σ' ρ' H' G' → Ok σ' H' G' ρ' → P.ct ρ' → D.ct σ' H') →
  (∀ cls d σ' ρ' H' G', Tr σ ρ H G σ' ρ' H' G' → Ok σ' H' G' ρ' → R cls d H' → E cls d H') → t E D σ H
def EvX (te : XK → TE) (ρ : Rho) (P : D → Prop) (R : XR) : Prop := ∀ σ H G, Ok σ H G ρ → ∀ (Q : VK) (E : XK), (∀ v d H' G', Px H G H' G' → Rp G' v d → P d → Q v H') → (∀ cls d H' G', Px H G H' G' → R cls d H' → E cls d H') → te E σ H Q
section
variable {K : PySem.W.Frag} {ρ : Rho} {te ta : XK → TE} {t u : XK → TS} {P : De} {R : XR} {tt : TT} {ts : TA}
theorem x_of {t : TS} (h : RunS t ρ P) : RunX (fun _ => t) ρ P R := fun σ H G k D E q1 q2 q3 q4 _ => h σ H G k D q1 q2 q3 q4
theorem x_seq (h : RunX t ρ { P with nx := fun ρ' => RunX u ρ' P R } R) : RunX (fun E => tSeq (t E) (u E)) ρ P R := fun σ H G k D E q1 q2 q3 q4 q5 =>
  h σ H G k { D with nx := u E D } E (fun σ1 ρ1 H1 G1 t1 k1 h1 => h1 σ1 H1 G1 k1 D E (fun σ' ρ' H' G' r => q1 σ' ρ' H' G' (t1.trans r)) (fun v d σ' ρ' H' G' r => q2 v d σ' ρ' H' G' (t1.trans r)) (fun σ' ρ' H' G' r => q3 σ' ρ' H' G' (t1.trans r)) (fun σ' ρ' H' G' r => q4 σ' ρ' H' G' (t1.trans r)) fun cls d σ' ρ' H' G' r => q5 cls d σ' ρ' H' G' (t1.trans r)) q2 q3 q4 q5
theorem x_if {b : Bool} (h : EvT tt ρ b) (h1 : b = true → RunX t ρ P R) (h2 : b = false → RunX u ρ P R) : RunX (fun E => tIfS tt (t E) (u E)) ρ P R := fun σ H G k D E q1 q2 q3 q4 q5 =>
  h σ H G k _ fun H1 G1 x1 => by
    have t1 := (Te.of (σ := σ) (ρ := ρ) x1).tr
    have fin : ∀ {s : XK → TS}, RunX s ρ P R → s E D σ H1 := fun {s} hs => hs σ H1 G1 (k.px x1) D E (fun σ' ρ' H' G' r => q1 σ' ρ' H' G' (t1.trans r)) (fun v d σ' ρ' H' G' r => q2 v d σ' ρ' H' G' (t1.trans r)) (fun σ' ρ' H' G' r => q3 σ' ρ' H' G' (t1.trans r)) (fun σ' ρ' H' G' r => q4 σ' ρ' H' G' (t1.trans r)) fun cls d σ' ρ' H' G' r => q5 cls d σ' ρ' H' G' (t1.trans r)
    cases b with
    | true => exact fin (h1 rfl)
    | false => exact fin (h2 rfl)
/-- raise X() -/
def tRaise0 (C : Addr) (E : XK) : TS := fun _ _ H => E (.ref C) none H
theorem x_raise0 {C : Addr} (h : ∀ H, R (.ref C) none H) : RunX (tRaise0 C) ρ P R := fun σ H G k D E _ _ _ _ q5 => q5 _ _ σ ρ H G Tr.refl k (h H)
/-- raise NoGuest(e) -/
theorem x_raiseNg {C : Addr} {te : TE} {z : Int} (h : EvE te ρ (.int z)) (hr : ∀ d H, H d = some (.xd [(("guest" : Str), V.int z)]) → R (.ref C) (some d) H) : RunX (fun E => tRaiseNg C (fun cls d _ H => E cls d H) (tCons te tNil)) ρ P R := fun σ H G k D E _ _ _ _ q5 =>
  h σ H G k _ fun v H1 G1 x1 r1 => ⟨v, rfl, fun d hd => by
    have e := r1.intV
    subst e
    have x2 := x1.trans (Px.new (o := .xd [(("guest" : Str), V.int z)]) x1.s hd)
    exact q5 _ _ σ ρ _ G1 (Te.of x2).tr (k.px x2) (hr d _ upd_same)⟩
theorem ex_of {te : TE} {P : D → Prop} (h : EvP te ρ P) : EvX (fun _ => te) ρ P R := fun σ H G k Q E q _ => h σ H G k Q q
theorem ex_call {ι : Type} {pre : ι → Prop} {args : ι → List D} {res : ι → D → Prop} {exc : ι → XR} (i : ι) (h : EvS ts ρ (args i)) (hp : pre i) (he : ∀ cls d H, exc i cls d H → R cls d H) : EvX (fun E => tCall (spX pre args res exc) [] E ts) ρ (res i) R := fun σ H G k Q E q qe =>
  h σ H G k _ fun vs H1 G1 x1 r1 => ⟨G1, i, x1.s, by rw [List.append_nil]; exact r1, hp, fun v r H2 G2 x2 r2 hr => q v r H2 G2 (x1.trans x2) r2 hr, fun cls d H2 G2 x2 hx => qe cls d H2 G2 (x1.trans x2) (he cls d H2 hx)⟩
theorem ex_imp {P P' : D → Prop} (h : EvX te ρ P R) (i : ∀ r, P r → P' r) : EvX te ρ P' R := fun σ H G k Q E q qe => h σ H G k Q E (fun v d H' G' x r p => q v d H' G' x r (i d p)) qe
/-- a call that raises nothing here -/
theorem p_callX {ι : Type} {pre : ι → Prop} {args : ι → List D} {res : ι → D → Prop} {exc : ι → XR} {E : XK} (i : ι) (h : EvS ts ρ (args i)) (hp : pre i) (he : ∀ cls d H, ¬ exc i cls d H) : EvP (tCall (spX pre args res exc) [] E ts) ρ (res i) := fun σ H G k Q q =>
  ex_call (R := fun _ _ _ => False) i h hp he σ H G k Q E q fun _ _ _ _ _ z => z.elim
theorem x_ret (h : EvX te ρ (P.rt ρ) R) : RunX (fun E => tRet (te E)) ρ P R := fun σ H G k D E q1 q2 q3 q4 q5 =>
  h σ H G k _ E (fun v d H1 G1 x1 r1 p => q2 v d σ ρ H1 G1 (Te.of x1).tr (k.px x1) r1 p) fun cls d H1 G1 x1 hx => q5 cls d σ ρ H1 G1 (Te.of x1).tr (k.px x1) hx
theorem x_asg {i : Nat} (h : EvX te ρ (fun d => P.nx (ρ.set i (some (.d d)))) R) : RunX (fun E => tAsg (te E) (gName i)) ρ P R := fun σ H G k D E q1 q2 q3 q4 q5 =>
  h σ H G k _ E (fun v d H1 G1 x1 r1 p => q1 _ _ H1 G1 ((Te.of x1).tr.trans tr_setD) ((k.px x1).setD r1) p) fun cls d H1 G1 x1 hx => q5 cls d σ ρ H1 G1 (Te.of x1).tr (k.px x1) hx
theorem x_unp {i j : Nat} (h : EvX te ρ (fun d => ∃ x y, d = .tuple [x, y] ∧ P.nx ((ρ.set i (some (.d x))).set j (some (.d y)))) R) : RunX (fun E => tAsg (te E) (gTup K 2 (gCons (gName i) (gCons (gName j) gNil)))) ρ P R := fun σ H G k D E q1 q2 q3 q4 q5 =>
  h σ H G k _ E (fun v d H1 G1 x1 r1 ⟨x, y, e, p⟩ => by
    subst e
    obtain ⟨a, hu, vs, rfl, h1, hs, r⟩ := r1.tupV
    cases r with
    | @cons v0 _ _ _ h0 r =>
      cases r with
      | @cons v2 _ _ _ h2 r =>
        cases r
        exact ⟨a, [v0, v2], rfl, sqt_seal (x1.s _ _ h1) hs, rfl, v0, [v2], rfl, v2, [], rfl, rfl, q1 _ _ H1 G1 (((Te.of x1).tr.trans tr_setD).trans tr_setD) (((k.px x1).setD h0).setD h2) p⟩) fun cls d H1 G1 x1 hx => q5 cls d σ ρ H1 G1 (Te.of x1).tr (k.px x1) hx
/-- (e, f), f may raise -/
theorem ex_tup2 {tb : TE} {y : D} {P : D → Prop} (h1 : EvE tb ρ y) (h2 : EvX te ρ (fun d => P (.tuple [y, d])) R) : EvX (fun E => tTupN (tCons tb (tCons (te E) tNil))) ρ P R := fun σ H G k Q E q qe =>
  h1 σ H G k _ fun v H1 G1 x1 r1 => h2 σ H1 G1 (k.px x1) _ E (fun v2 d H2 G2 x2 r2 p => ⟨by show 2 ≤ sizeLine; decide, fun a u ha hu => q _ _ _ _ ((x1.trans x2).trans (Px.new2 x2.s ha)) (.tup upd_same hu ((RpL.cons (r1.mono x2.g) (.one r2)).mono (same_new (x2.s.free ha)))) p⟩) fun cls d H2 G2 x2 hx => qe cls d H2 G2 (x1.trans x2) hx
end
/-- a def that may raise keeps its promise -/
theorem fn_X {ι : Type} {pre : ι → Prop} {args : ι → List D} {res : ι → D → Prop} {exc : ι → XR} {N : List Str} {t : XK → TS} (h : ∀ i, pre i → RunX t (startR N.length (args i)) { nx := fun _ => res i .none, rt := fun _ => res i } (exc i)) :
    ∀ vs H Q E, spX pre args res exc vs H Q E → t E { nx := fun _ H' => Q .non H', rt := Q } (start N vs) H := fun vs H Q E ⟨G, i, s, r, hp, q, qe⟩ =>
  h i hp (start N vs) H G (ok_start s r) _ E (fun σ' ρ' H' G' t' k' hn => q .non .none H' G' (tr_start t' k'.sub) .non hn) (fun v d σ' ρ' H' G' t' k' r' hr => q v d H' G' (tr_start t' k'.sub) r' hr) (fun _ _ _ _ _ _ z => z) (fun _ _ _ _ _ _ z => z) fun cls d σ' ρ' H' G' t' k' hx => qe cls d H' G' (tr_start t' k'.sub) hx
end Lw
set_option Elab.async false
set_option linter.all false
set_option maxRecDepth 100000
set_option maxHeartbeats 4000000
namespace Lw
open PySem PySem.Spec PyProof.Rows L2
/-- an own class without __init__, over ValueError -/
abbrev veT : List Value := [.type "ValueError", .type "Exception", .type "BaseException", .type "object"]
/-- the three classes of errors -/
structure Exs (P : Program) (K : PySem.W.Frag) (mg : Str → Option Value) (Cu Cc Cn fI cc cda : Addr) : Prop where
  ng : NgX.NgTxt P K mg Cn fI cc cda
  xU : PySem.W.excIn K Cu veT "ValueError.__new__" = true
  gU : mg "Unfit" = some (.ref Cu)
  kU : PySem.W.keepIn K (.ref Cu) = true
  bU : PySem.W.subIn K (.ref Cu) (.type "BaseException") = some true
  tU : PySem.W.typeIn K (.ref Cu) = some (.type "type")
  xC : PySem.W.excIn K Cc veT "ValueError.__new__" = true
  gC : mg "CanNot" = some (.ref Cc)
  kC : PySem.W.keepIn K (.ref Cc) = true
  bC : PySem.W.subIn K (.ref Cc) (.type "BaseException") = some true
  tC : PySem.W.typeIn K (.ref Cc) = some (.type "type")
  iU : ExcC K Cu
  iC : ExcC K Cc
  iN : ExcC K Cn
  eCC : PySem.W.exmOne K (.ref Cc) (.ref Cc) = some true
  eNC : PySem.W.exmOne K (.ref Cn) (.ref Cc) = some false
  eNN : PySem.W.exmOne K (.ref Cn) (.ref Cn) = some true
  eUC : PySem.W.exmOne K (.ref Cu) (.ref Cc) = some false
  eUN : PySem.W.exmOne K (.ref Cu) (.ref Cn) = some false
  eUU : PySem.W.exmOne K (.ref Cu) (.ref Cu) = some true
  vC : PySem.W.kitOne K (.ref Cc) (.type "ValueError") = some true
  vU : PySem.W.kitOne K (.ref Cu) (.type "ValueError") = some true
  vN : PySem.W.kitOne K (.ref Cn) (.type "LookupError") = some true
def t_sure_guest (K : PySem.W.Frag) (Cu Cc Cn : Addr) (sp_is_number : Sp) (sp_is_within : Sp) (E : XK) : TS := (tSeq (tIfS (tNot (tB (tCall sp_is_number [] E0 (tCons (tVar 1) tNil)))) (tRaise0 Cu E) tNext)
    (tSeq (tIfS (tNot (tB (tCall sp_is_within [] E0 (tCons (tVar 1) (tCons (tC (.int 0)) (tCons (tOp rSubI (tCB (rLenQ K) (tCons (tOp (rIx K) (tVar 0) (tC (.int 1))) tNil)) (tC (.int 1))) tNil)))))) (tRaiseNg Cn (fun cls d _ H => E cls d H) (tCons (tVar 1) tNil)) tNext)
    (tRet (tVar 1))))
theorem dv_sure_guest {P : Program} {w : World} {K : PySem.W.Frag} {mg : Str → Option Value} {base : Heap} {k : Nat} {cdv : Value} {A : Around} {outer : List Env} {s : Shared} {H : Hp} {E : XK} {Cu Cc Cn fI cc cda : Addr} (T : Tx K mg) (S : Exs P K mg Cu Cc Cn fI cc cda) {sp_is_number : Sp} (G_is_number : FnOk P w K mg base CX0 k T.is_number.f T.is_number.fd P_is_number sp_is_number) {sp_is_within : Sp} (G_is_within : FnOk P w K mg base CX0 k T.is_within.f T.is_within.fd P_is_within sp_is_within)
    (hr : Room k (A.deeper (envOfC "sure_guest" (defScope s_sure_guest) s.heap.objs.size T.sure_guest.f cdv))) : PSs (cxOf (L2.CX P w) P w K mg base N_sure_guest "sure_guest" (defScope s_sure_guest) T.sure_guest.f cdv A outer s H E) (defBody s_sure_guest) (t_sure_guest K Cu Cc Cn sp_is_number sp_is_within E) :=
  (pss_cons (ps_if (pt_not (pt_val (pe_call G_is_number hr (by rfl) T.is_number.g T.is_number.F.kp T.is_number.b .nil pass0 (pa_cons (pv 1) pa_nil)))) (pss_one (ps_raise rfl (takes_of rfl rfl rfl rfl) (pmk_own0 PySem.F.excBase_ValueError S.xU S.gU S.kU (raises_own S.bU S.tU) (by rfl)))) pss_nil)
      (pss_cons (ps_if (pt_not (pt_val (pe_call G_is_within hr (by rfl) T.is_within.g T.is_within.F.kp T.is_within.b .nil pass0 (pa_cons (pv 1) (pa_cons pe_int (pa_cons (pe_op op_sub (pe_callB call_len_seq (by rfl) T.A.n_len PySem.boot_len (pa_cons (pe_ix ix_seq (pv 0) pe_int (fun _ _ => rfl)) pa_nil)) pe_int) pa_nil)))))) (pss_one (ps_raiseNg rfl S.ng hr (takes_of rfl rfl rfl rfl) (pa_cons (pv 1) pa_nil) (by rfl))) pss_nil)
      (pss_one (ps_ret (pv 1)))))
def t_sure_taking (K : PySem.W.Frag) (Cu Cc Cn : Addr) (sp_tupled : Sp) (sp_is_taking_in : Sp) (E : XK) : TS := (tSeq (tAsg (tCall sp_tupled [] E0 (tCons (tVar 1) tNil)) (gName 2))
    (tSeq (tIfS (tNot (tB (tCall sp_is_taking_in [] E0 (tCons (tVar 0) (tCons (tVar 2) tNil))))) (tRaise0 Cu E) tNext)
    (tRet (tVar 2))))
theorem dv_sure_taking {P : Program} {w : World} {K : PySem.W.Frag} {mg : Str → Option Value} {base : Heap} {k : Nat} {cdv : Value} {A : Around} {outer : List Env} {s : Shared} {H : Hp} {E : XK} {Cu Cc Cn fI cc cda : Addr} (T : Tx K mg) (S : Exs P K mg Cu Cc Cn fI cc cda) {sp_tupled : Sp} (G_tupled : FnOk P w K mg base CX0 k T.tupled.f T.tupled.fd P_tupled sp_tupled) {sp_is_taking_in : Sp} (G_is_taking_in : FnOk P w K mg base CX0 k T.is_taking_in.f T.is_taking_in.fd P_is_taking_in sp_is_taking_in)
    (hr : Room k (A.deeper (envOfC "sure_taking" (defScope s_sure_taking) s.heap.objs.size T.sure_taking.f cdv))) : PSs (cxOf (L2.CX P w) P w K mg base N_sure_taking "sure_taking" (defScope s_sure_taking) T.sure_taking.f cdv A outer s H E) (defBody s_sure_taking) (t_sure_taking K Cu Cc Cn sp_tupled sp_is_taking_in E) :=
  (pss_cons (ps_set (i := 2) (sc_sure_taking).nd rfl (by first | exact Or.inl rfl | exact Or.inr rfl) (pe_call G_tupled hr (by rfl) T.tupled.g T.tupled.F.kp T.tupled.b .nil pass0 (pa_cons (pv 1) pa_nil)))
      (pss_cons (ps_if (pt_not (pt_val (pe_call G_is_taking_in hr (by rfl) T.is_taking_in.g T.is_taking_in.F.kp T.is_taking_in.b .nil pass0 (pa_cons (pv 0) (pa_cons (pv 2) pa_nil))))) (pss_one (ps_raise rfl (takes_of rfl rfl rfl rfl) (pmk_own0 PySem.F.excBase_ValueError S.xU S.gU S.kU (raises_own S.bU S.tU) (by rfl)))) pss_nil)
      (pss_one (ps_ret (pv 2)))))
def t_sure_held (K : PySem.W.Frag) (Cu Cc Cn : Addr) (sp_sure_web : Sp) (sp_sure_taking : Sp) (E : XK) : TS := (tSeq (tAsg (tCall sp_sure_web [] E0 (tCons (tVar 0) tNil)) (gName 2))
    (tRet (tTupN (tCons (tVar 2) (tCons (tCall sp_sure_taking [] E (tCons (tVar 2) (tCons (tVar 1) tNil))) tNil)))))
theorem dv_sure_held {P : Program} {w : World} {K : PySem.W.Frag} {mg : Str → Option Value} {base : Heap} {k : Nat} {cdv : Value} {A : Around} {outer : List Env} {s : Shared} {H : Hp} {E : XK} {Cu Cc Cn fI cc cda : Addr} (T : Tx K mg) (S : Exs P K mg Cu Cc Cn fI cc cda) {sp_sure_web : Sp} (G_sure_web : FnOk P w K mg base CX0 k T.sure_web.f T.sure_web.fd P_sure_web sp_sure_web) {sp_sure_taking : Sp} (G_sure_taking : FnOk P w K mg base (L2.CX P w) k T.sure_taking.f T.sure_taking.fd P_sure_taking sp_sure_taking)
    (hr : Room k (A.deeper (envOfC "sure_held" (defScope s_sure_held) s.heap.objs.size T.sure_held.f cdv))) : PSs (cxOf (L2.CX P w) P w K mg base N_sure_held "sure_held" (defScope s_sure_held) T.sure_held.f cdv A outer s H E) (defBody s_sure_held) (t_sure_held K Cu Cc Cn sp_sure_web sp_sure_taking E) :=
  (pss_cons (ps_set (i := 2) (sc_sure_held).nd rfl (by first | exact Or.inl rfl | exact Or.inr rfl) (pe_call G_sure_web hr (by rfl) T.sure_web.g T.sure_web.F.kp T.sure_web.b .nil pass0 (pa_cons (pv 0) pa_nil)))
      (pss_one (ps_ret (pe_tupN (pa_cons (pv 2) (pa_cons (pe_call G_sure_taking hr (by rfl) T.sure_taking.g T.sure_taking.F.kp T.sure_taking.b .nil (passes_call (takes_of rfl rfl rfl rfl) fun _ _ _ _ h => h) (pa_cons (pv 2) (pa_cons (pv 1) pa_nil))) pa_nil))))))
def t_behind_whom (K : PySem.W.Frag) (Cu Cc Cn : Addr) (sp_sure_held : Sp) (sp_sure_guest : Sp) (sp_is_outcome_in : Sp) (sp_arrows_in : Sp) (sp_set_of : Sp) (E : XK) : TS := (tSeq (tAsg (tCall sp_sure_held [] E (tCons (tVar 0) (tCons (tVar 1) tNil))) (gTup K 2 (gCons (gName 3) (gCons (gName 4) gNil))))
    (tSeq (tAsg (tCall sp_sure_guest [] E (tCons (tVar 3) (tCons (tVar 2) tNil))) (gName 5))
    (tSeq (tIfS (tNot (tB (tCall sp_is_outcome_in [] E0 (tCons (tVar 3) (tCons (tVar 4) tNil))))) (tRaise0 Cc E) tNext)
    (tSeq (tAsg (tTup (tCons (tLst tNil) (tCons (tLst (tCons (tVar 5) tNil)) (tCons (tCall sp_arrows_in [] E0 (tCons (tVar 3) (tCons (tVar 4) tNil))) tNil)))) (gTup K 3 (gCons (gName 6) (gCons (gName 7) (gCons (gName 8) gNil)))))
    (tSeq (tWhile (tTest (tOp (rNeD K) (tVar 7) (tLst tNil))) (tSeq (tAsg (tLc (iSeq K (tVar 8)) (gTup K 2 (gCons (gName 10) (gCons (gName 11) gNil))) (tAnd (tTest (tOp (rIn K false) (tVar 11) (tVar 7))) (tTest (tOp (rIn K true) (tVar 10) (tVar 6)))) (tVar 10) [10, 11]) (gName 9))
    (tAsg (tTup (tCons (tLst (StX.tStar K (tVar 6) (StX.tStar K (tCall sp_set_of [] E0 (tCons (tVar 9) tNil)) tNil))) (tCons (tCB (rListQ K) (tCons (tCall sp_set_of [] E0 (tCons (tVar 9) tNil)) tNil)) tNil))) (gTup K 2 (gCons (gName 6) (gCons (gName 7) gNil))))))
    (tRet (tCall sp_set_of [] E0 (tCons (tVar 6) tNil))))))))
theorem dv_behind_whom {P : Program} {w : World} {K : PySem.W.Frag} {mg : Str → Option Value} {base : Heap} {k : Nat} {cdv : Value} {A : Around} {outer : List Env} {s : Shared} {H : Hp} {E : XK} {Cu Cc Cn fI cc cda : Addr} (T : Tx K mg) (S : Exs P K mg Cu Cc Cn fI cc cda) {sp_sure_held : Sp} (G_sure_held : FnOk P w K mg base (L2.CX P w) k T.sure_held.f T.sure_held.fd P_sure_held sp_sure_held) {sp_sure_guest : Sp} (G_sure_guest : FnOk P w K mg base (L2.CX P w) k T.sure_guest.f T.sure_guest.fd P_sure_guest sp_sure_guest) {sp_is_outcome_in : Sp} (G_is_outcome_in : FnOk P w K mg base CX0 k T.is_outcome_in.f T.is_outcome_in.fd P_is_outcome_in sp_is_outcome_in) {sp_arrows_in : Sp} (G_arrows_in : FnOk P w K mg base CX0 k T.arrows_in.f T.arrows_in.fd P_arrows_in sp_arrows_in) {sp_set_of : Sp} (G_set_of : FnOk P w K mg base CX0 k T.set_of.f T.set_of.fd P_set_of sp_set_of)
    (hr : Room k (A.deeper (envOfC "behind_whom" (defScope s_behind_whom) s.heap.objs.size T.behind_whom.f cdv))) : PSs (cxOf (L2.CX P w) P w K mg base N_behind_whom "behind_whom" (defScope s_behind_whom) T.behind_whom.f cdv A outer s H E) (defBody s_behind_whom) (t_behind_whom K Cu Cc Cn sp_sure_held sp_sure_guest sp_is_outcome_in sp_arrows_in sp_set_of E) :=
  (pss_cons (ps_asg (pe_call G_sure_held hr (by rfl) T.sure_held.g T.sure_held.F.kp T.sure_held.b .nil (passes_call (takes_of rfl rfl rfl rfl) fun _ _ _ _ h => h) (pa_cons (pv 0) (pa_cons (pv 1) pa_nil))) (pg_tup rfl (pgs_cons (pg_name (i := 3) (sc_behind_whom).nd rfl (by first | exact Or.inl rfl | exact Or.inr rfl)) (pgs_cons (pg_name (i := 4) (sc_behind_whom).nd rfl (by first | exact Or.inl rfl | exact Or.inr rfl)) pgs_nil))))
      (pss_cons (ps_set (i := 5) (sc_behind_whom).nd rfl (by first | exact Or.inl rfl | exact Or.inr rfl) (pe_call G_sure_guest hr (by rfl) T.sure_guest.g T.sure_guest.F.kp T.sure_guest.b .nil (passes_call (takes_of rfl rfl rfl rfl) fun _ _ _ _ h => h) (pa_cons (pv 3) (pa_cons (pv 2) pa_nil))))
      (pss_cons (ps_if (pt_not (pt_val (pe_call G_is_outcome_in hr (by rfl) T.is_outcome_in.g T.is_outcome_in.F.kp T.is_outcome_in.b .nil pass0 (pa_cons (pv 3) (pa_cons (pv 4) pa_nil))))) (pss_one (ps_raise rfl (takes_of rfl rfl rfl rfl) (pmk_own0 PySem.F.excBase_ValueError S.xC S.gC S.kC (raises_own S.bC S.tC) (by rfl)))) pss_nil)
      (pss_cons (ps_asg (pe_tup (pa_cons (pe_lst pa_nil) (pa_cons (pe_lst (pa_cons (pv 5) pa_nil)) (pa_cons (pe_call G_arrows_in hr (by rfl) T.arrows_in.g T.arrows_in.F.kp T.arrows_in.b .nil pass0 (pa_cons (pv 3) (pa_cons (pv 4) pa_nil))) pa_nil)))) (pg_tup rfl (pgs_cons (pg_name (i := 6) (sc_behind_whom).nd rfl (by first | exact Or.inl rfl | exact Or.inr rfl)) (pgs_cons (pg_name (i := 7) (sc_behind_whom).nd rfl (by first | exact Or.inl rfl | exact Or.inr rfl)) (pgs_cons (pg_name (i := 8) (sc_behind_whom).nd rfl (by first | exact Or.inl rfl | exact Or.inr rfl)) pgs_nil)))))
      (pss_cons (ps_while (passes_of rfl) (pt_cmpR (op_neD hr.units) (pv 7) (pe_lst pa_nil) (nomark _)) (pss_cons (ps_setLc (i := 9) (own := [("first", 10), ("later", 11)]) (by rfl) (sc_behind_whom).nd rfl rfl (sw_true rfl rfl rfl (by decide +kernel)) (pi_seq (pv 8)) (blkOk_by (by kernel_rfl)) (fun _ _ _ _ _ => (pg_tup rfl (pgs_cons (pg_name (i := 10) (sc_behind_whom).nd rfl (by first | exact Or.inl rfl | exact Or.inr rfl)) (pgs_cons (pg_name (i := 11) (sc_behind_whom).nd rfl (by first | exact Or.inl rfl | exact Or.inr rfl)) pgs_nil)))) (fun _ _ _ _ _ => (pts_one (PW.pt (pw_and (pt_cmpR op_in_seq (pv 11) (pv 7) (by rfl)) (pw_and1 (pt_cmpR op_notIn_seq (pv 10) (pv 6) (by rfl))))))) (fun _ _ _ _ _ => (pv 10)))
      (pss_one (ps_asg (pe_tup (pa_cons (pe_lst (StX.pa_star (pv 6) (StX.pa_star (pe_call G_set_of hr (by rfl) T.set_of.g T.set_of.F.kp T.set_of.b .nil pass0 (pa_cons (pv 9) pa_nil)) pa_nil))) (pa_cons (pe_callTy call_list_of (by rfl) T.A.n_list (by decide +kernel) (pa_cons (pe_call G_set_of hr (by rfl) T.set_of.g T.set_of.F.kp T.set_of.b .nil pass0 (pa_cons (pv 9) pa_nil)) pa_nil)) pa_nil))) (pg_tup rfl (pgs_cons (pg_name (i := 6) (sc_behind_whom).nd rfl (by first | exact Or.inl rfl | exact Or.inr rfl)) (pgs_cons (pg_name (i := 7) (sc_behind_whom).nd rfl (by first | exact Or.inl rfl | exact Or.inr rfl)) pgs_nil)))))))
      (pss_one (ps_ret (pe_call G_set_of hr (by rfl) T.set_of.g T.set_of.F.kp T.set_of.b .nil pass0 (pa_cons (pv 6) pa_nil)))))))))
end Lw
set_option Elab.async false
set_option linter.all false
set_option maxRecDepth 100000
set_option maxHeartbeats 1000000
namespace Lw
open PySem PySem.Spec PyProof.Rows L2
/-! ### how a call ends -/
inductive Kd where
  | fine
  | unfit
  | cannot
  | noguest (z : Int)
def excR (Cu Cc Cn : Addr) : Kd → XR
  | .fine => fun _ _ _ => False
  | .unfit => fun cls d _ => cls = .ref Cu ∧ d = none
  | .cannot => fun cls d _ => cls = .ref Cc ∧ d = none
  | .noguest z => fun cls d H => cls = .ref Cn ∧ ∃ dd, d = some dd ∧ H dd = some (.xd [(("guest" : Str), V.int z)])
section
variable {P : Program} {w : World} {K : PySem.W.Frag} {mg : Str → Option Value} {base : Heap} {Cu Cc Cn fI cc cda : Addr}
/-! ### sure_guest -/
structure GueI where
  m : Nat
  gs : List (Nat × Nat)
  g : D
def kdG (n : Nat) (g : D) : Kd := match g with
  | .int z => if withinB (.int z) 0 ((n : Int) - 1) = true then .fine else .noguest z
  | _ => .unfit
def sp_sure_guest (Cu Cc Cn : Addr) : Sp := spX (fun i : GueI => notP i.g = true) (fun i => [webD i.m i.gs, i.g]) (fun i r => r = i.g ∧ ∃ k : Nat, k < i.gs.length ∧ i.g = natD k) fun i => excR Cu Cc Cn (kdG i.gs.length i.g)
theorem run_sure_guest (i : GueI) (h : notP i.g = true) : RunX (t_sure_guest K Cu Cc Cn sp_is_number sp_is_within) (startR 2 [webD i.m i.gs, i.g]) { nx := fun _ => PyData.none = i.g ∧ ∃ k : Nat, k < i.gs.length ∧ i.g = natD k, rt := fun _ r => r = i.g ∧ ∃ k : Nat, k < i.gs.length ∧ i.g = natD k } (excR Cu Cc Cn (kdG i.gs.length i.g)) := by
  obtain ⟨m, gs, g⟩ := i
  have v1 : EvE (tVar 1) (startR 2 [webD m gs, g]) g := e_var rfl
  unfold t_sure_guest
  refine x_seq (x_if (t_not (t_B (e_is_number v1 h))) (fun e => ?_) fun e => x_of (r_next ?_))
  · cases g with
    | int z => cases e
    | _ => exact x_raise0 fun H => ⟨rfl, rfl⟩
  · cases g with
    | int z =>
      refine x_seq (x_if (t_not (t_B (e_is_within v1 (e_int (i := 0)) (e_op (e_lenG (m := m) (gs := gs) (e_var rfl)).b (e_int (i := 1)).b o_sub) h))) (fun e => ?_) fun e => x_of (r_next ?_))
      · have e : withinB (.int z) 0 ((gs.length : Int) - 1) = false := by simpa using e
        refine x_raiseNg v1 fun d H hd => ?_
        show excR Cu Cc Cn (if withinB (.int z) 0 ((gs.length : Int) - 1) = true then .fine else .noguest z) _ _ _
        rw [if_neg (by rw [e]; exact Bool.false_ne_true)]
        exact ⟨rfl, d, rfl, hd⟩
      · have e : withinB (.int z) 0 ((gs.length : Int) - 1) = true := by simpa using e
        have e2 : (decide ((0 : Int) ≤ z) && decide (z ≤ (gs.length : Int) - 1)) = true := e
        rw [Bool.and_eq_true] at e2
        have e3 := of_decide_eq_true e2.1
        have e4 := of_decide_eq_true e2.2
        refine x_of (r_ret v1 ⟨rfl, z.toNat, by show z.toNat < gs.length; omega, ?_⟩)
        show PyData.int z = .int ((z.toNat : Nat) : Int)
        congr 1
        omega
    | _ => cases e
theorem ok_sure_guest (T : Tx K mg) (S : Exs P K mg Cu Cc Cn fI cc cda) : FnOk P w K mg base (L2.CX P w) 3 T.sure_guest.f T.sure_guest.fd P_sure_guest (sp_sure_guest Cu Cc Cn) :=
  T.sure_guest.F.okX (k := 2) sc_sure_guest (len_X fun _ => rfl) fun cdv A outer s H vs Q E hr h => ⟨_, dv_sure_guest T S ((ok_is_number T).mono (by decide)) (ok_is_within T) hr, fn_X (N := N_sure_guest) run_sure_guest vs H Q E h⟩
/-! ### sure_taking -/
/-- what stands for a taking -/
structure TkD where
  d : D
  m : Nat
  gs : List (Nat × Nat)
  ts : List (Option Nat)
def TkD.ok (i : TkD) : Prop := dep 3 i.d = true ∧ tupN 3 i.d = takD i.ts ∧ TakOk i.gs i.ts
def kdT (ts : List (Option Nat)) : Kd := if (held ts).Nodup then .fine else .unfit
theorem takV_of {gs : List (Nat × Nat)} {ts : List (Option Nat)} (h : TakOk gs ts) (nd : (held ts).Nodup) : TakV gs ts := ⟨⟨h.len, h.at_, fun i j p hi hj => by
  have key : ∀ (ts : List (Option Nat)) (i j : Nat), (held ts).Nodup → ts[i]? = some (some p) → ts[j]? = some (some p) → i = j := by
    intro ts
    induction ts with
    | nil => intro i j _ hi _; simp at hi
    | cons o ts ih =>
      intro i j nd hi hj
      have mem : ∀ (k : Nat), ts[k]? = some (some p) → p ∈ held ts := fun k hk => List.mem_filterMap.mpr ⟨some p, List.mem_of_getElem? hk, rfl⟩
      have nd' : (held ts).Nodup := by
        cases o with
        | none => exact nd
        | some q => exact (List.nodup_cons.mp (show (q :: held ts).Nodup from nd)).2
      have no : ∀ k : Nat, o = some p → ts[k]? ≠ some (some p) := fun k e hk => by
        subst e
        exact (List.nodup_cons.mp (show (p :: held ts).Nodup from nd)).1 (mem k hk)
      cases i with
      | zero =>
        cases j with
        | zero => rfl
        | succ j =>
          have e : o = some p := by simpa using hi
          exact absurd (by simpa using hj) (no j e)
      | succ i =>
        cases j with
        | zero =>
          have e : o = some p := by simpa using hj
          exact absurd (by simpa using hi) (no i e)
        | succ j => rw [ih i j nd' (by simpa using hi) (by simpa using hj)]
  exact key ts i j nd hi hj⟩, h.few⟩
def sp_sure_taking (Cu Cc Cn : Addr) : Sp := spX TkD.ok (fun i => [webD i.m i.gs, i.d]) (fun i r => r = takD i.ts ∧ TakV i.gs i.ts) fun i => excR Cu Cc Cn (kdT i.ts)
theorem run_sure_taking (i : TkD) (h : i.ok) : RunX (t_sure_taking K Cu Cc Cn (sp_tupled 3) sp_is_taking_in) (startR 3 [webD i.m i.gs, i.d]) { nx := fun _ => PyData.none = takD i.ts ∧ TakV i.gs i.ts, rt := fun _ r => r = takD i.ts ∧ TakV i.gs i.ts } (excR Cu Cc Cn (kdT i.ts)) := by
  obtain ⟨d, m, gs, ts⟩ := i
  obtain ⟨h1, h2, h3⟩ := h
  unfold t_sure_taking
  refine x_seq (x_of (r_asg (x := takD ts) (e_call d (e_var (x := d) rfl).one h1 fun r e => e.trans h2) ?_))
  refine x_seq (x_if (t_not (t_B (e_call (z := .bool (decide (held ts).Nodup)) (⟨m, gs, ts⟩ : TakI) (s_cons (e_var rfl) (e_var (x := takD ts) rfl).one) h3 fun r e => e))) (fun e => ?_) fun e => x_of (r_next ?_))
  · have e : ¬ (held ts).Nodup := by simpa using e
    refine x_raise0 fun H => ?_
    show excR Cu Cc Cn (if (held ts).Nodup then .fine else .unfit) _ _ _
    rw [if_neg e]
    exact ⟨rfl, rfl⟩
  · have e : (held ts).Nodup := by simpa using e
    exact x_of (r_ret (x := takD ts) (e_var rfl) ⟨rfl, takV_of h3 e⟩)
theorem ok_sure_taking (T : Tx K mg) (S : Exs P K mg Cu Cc Cn fI cc cda) : FnOk P w K mg base (L2.CX P w) 5 T.sure_taking.f T.sure_taking.fd P_sure_taking (sp_sure_taking Cu Cc Cn) :=
  T.sure_taking.F.okX (k := 4) sc_sure_taking (len_X fun _ => rfl) fun cdv A outer s H vs Q E hr h => ⟨_, dv_sure_taking T S (ok_tupled T 3) ((ok_is_taking_in T).mono (by decide)) hr, fn_X (N := N_sure_taking) run_sure_taking vs H Q E h⟩
/-! ### sure_held -/
structure HeldI where
  wd : D
  td : D
  m : Nat
  gs : List (Nat × Nat)
  ts : List (Option Nat)
def HeldI.ok (i : HeldI) : Prop := (WebI.mk i.wd i.m i.gs).ok ∧ (TkD.mk i.td i.m i.gs i.ts).ok
def sp_sure_held (Cu Cc Cn : Addr) : Sp := spX HeldI.ok (fun i => [i.wd, i.td]) (fun i r => r = .tuple [webD i.m i.gs, takD i.ts] ∧ TakV i.gs i.ts) fun i => excR Cu Cc Cn (kdT i.ts)
theorem run_sure_held (i : HeldI) (h : i.ok) : RunX (t_sure_held K Cu Cc Cn sp_sure_web (sp_sure_taking Cu Cc Cn)) (startR 3 [i.wd, i.td]) { nx := fun _ => PyData.none = .tuple [webD i.m i.gs, takD i.ts] ∧ TakV i.gs i.ts, rt := fun _ r => r = .tuple [webD i.m i.gs, takD i.ts] ∧ TakV i.gs i.ts } (excR Cu Cc Cn (kdT i.ts)) := by
  obtain ⟨wd, td, m, gs, ts⟩ := i
  obtain ⟨h1, h2⟩ := h
  unfold t_sure_held
  refine x_seq (x_of (r_asg (x := webD m gs) (e_call (⟨wd, m, gs⟩ : WebI) (e_var (x := wd) rfl).one h1 fun r e => e) ?_))
  refine x_ret (ex_tup2 (y := webD m gs) (e_var rfl) ?_)
  exact ex_imp (ex_call (⟨td, m, gs, ts⟩ : TkD) (s_cons (e_var rfl) (e_var (x := td) rfl).one) h2 fun _ _ _ h => h) fun r ⟨e, hv⟩ => ⟨by rw [e], hv⟩
theorem ok_sure_held (T : Tx K mg) (S : Exs P K mg Cu Cc Cn fI cc cda) : FnOk P w K mg base (L2.CX P w) 6 T.sure_held.f T.sure_held.fd P_sure_held (sp_sure_held Cu Cc Cn) :=
  T.sure_held.F.okX (k := 5) sc_sure_held (len_X fun _ => rfl) fun cdv A outer s H vs Q E hr h => ⟨_, dv_sure_held T S (ok_sure_web T) (ok_sure_taking T S) hr, fn_X (N := N_sure_held) run_sure_held vs H Q E h⟩
/-- where nothing is raised -/
theorem p_held {ρ : Rho} {ta tb : TE} {wd td : D} {m : Nat} {gs : List (Nat × Nat)} {ts : List (Option Nat)} (h1 : EvE ta ρ wd) (h2 : EvE tb ρ td) (hw : (HeldI.mk wd td m gs ts).ok) (nd : (held ts).Nodup) {E : XK} :
    EvP (tCall (sp_sure_held Cu Cc Cn) [] E (tCons ta (tCons tb tNil))) ρ fun r => r = .tuple [webD m gs, takD ts] ∧ TakV gs ts := p_callX (⟨wd, td, m, gs, ts⟩ : HeldI) (s_cons h1 h2.one) hw fun cls d H => by
  show ¬ excR Cu Cc Cn (if (held ts).Nodup then .fine else .unfit) _ _ _
  rw [if_pos nd]
  exact id
end
end Lw
set_option Elab.async false
set_option linter.all false
set_option maxRecDepth 100000
set_option maxHeartbeats 1000000
namespace Lw
open PySem PySem.Spec PyProof.Rows L2
section
variable {P : Program} {w : World} {K : PySem.W.Frag} {mg : Str → Option Value} {base : Heap} {Cu Cc Cn fI cc cda : Addr}
/-! ### is_outcome, order_of, is_order_of -/
def sp_is_outcome : Sp := spI (fun i : HeldI => i.ok ∧ (held i.ts).Nodup) (fun i => [i.wd, i.td]) fun i r => r = .bool (outB i.gs i.ts)
theorem run_is_outcome (i : HeldI) (h : i.ok ∧ (held i.ts).Nodup) : RunS (t_is_outcome K (sp_sure_held Cu Cc Cn) sp_is_outcome_in) (startR 4 [i.wd, i.td]) { nx := fun _ => PyData.none = .bool (outB i.gs i.ts), rt := fun _ r => r = .bool (outB i.gs i.ts) } := by
  obtain ⟨wd, td, m, gs, ts⟩ := i
  obtain ⟨h1, h2⟩ := h
  refine r_seq (r_unp (z_of ((p_held (m := m) (e_var rfl) (e_var rfl) h1 h2).imp fun r ⟨e, hv⟩ => ⟨_, _, e, ?_⟩)))
  exact r_ret (x := .bool (outB gs ts)) (e_call (⟨m, gs, ts⟩ : TakI) (s_cons (e_var rfl) (e_var rfl).one) hv fun r e => e) rfl
theorem ok_is_outcome (T : Tx K mg) (S : Exs P K mg Cu Cc Cn fI cc cda) : FnOk P w K mg base CX0 7 T.is_outcome.f T.is_outcome.fd P_is_outcome sp_is_outcome :=
  T.is_outcome.F.ok (k := 6) sc_is_outcome (len_I fun _ => rfl) fun cdv A outer s H vs Q E hr h => ⟨_, dv_is_outcome T (ok_sure_held T S) ((ok_is_outcome_in T).mono (by decide)) hr, fn_I (N := N_is_outcome) run_is_outcome vs H Q E h⟩
def sp_order_of : Sp := spI (fun i : HeldI => i.ok ∧ (held i.ts).Nodup ∧ outB i.gs i.ts = true) (fun i => [i.wd, i.td]) fun i r => r = ordD (ordF i.gs i.ts)
theorem run_order_of (i : HeldI) (h : i.ok ∧ (held i.ts).Nodup ∧ outB i.gs i.ts = true) : RunS (t_order_of K (sp_sure_held Cu Cc Cn) sp_is_outcome_in sp_order_in) (startR 4 [i.wd, i.td]) { nx := fun _ => PyData.none = ordD (ordF i.gs i.ts), rt := fun _ r => r = ordD (ordF i.gs i.ts) } := by
  obtain ⟨wd, td, m, gs, ts⟩ := i
  obtain ⟨h1, h2, h3⟩ := h
  have h3 : outB gs ts = true := h3
  refine r_seq (r_unp (z_of ((p_held (m := m) (e_var rfl) (e_var rfl) h1 h2).imp fun r ⟨e, hv⟩ => ⟨_, _, e, ?_⟩)))
  refine r_seq (r_if (b := false) (t_not (a := true) (t_B (e_call (z := .bool true) (⟨m, gs, ts⟩ : TakI) (s_cons (e_var rfl) (e_var rfl).one) hv fun r e => by rw [e]; show PyData.bool (outB gs ts) = _; rw [h3]))) (fun e => by cases e) fun _ => r_next ?_)
  exact r_ret (x := ordD (ordF gs ts)) (e_order (m := m) (e_var rfl) (e_var rfl) hv) rfl
theorem ok_order_of (T : Tx K mg) (S : Exs P K mg Cu Cc Cn fI cc cda) : FnOk P w K mg base CX0 7 T.order_of.f T.order_of.fd P_order_of sp_order_of :=
  T.order_of.F.ok (k := 6) sc_order_of (len_I fun _ => rfl) fun cdv A outer s H vs Q E hr h => ⟨_, dv_order_of T (ok_sure_held T S) ((ok_is_outcome_in T).mono (by decide)) ((ok_order_in T).mono (by decide)) hr, fn_I (N := N_order_of) run_order_of vs H Q E h⟩
def sp_is_order_of : Sp := spI (fun p : HeldI × List Nat => p.1.ok ∧ (held p.1.ts).Nodup ∧ Ord p.1.gs.length p.2) (fun p => [p.1.wd, p.1.td, natsT p.2]) fun p r => r = .bool (aloB ⟨p.1.m, p.1.gs, p.1.ts, p.2⟩)
theorem run_is_order_of (p : HeldI × List Nat) (h : p.1.ok ∧ (held p.1.ts).Nodup ∧ Ord p.1.gs.length p.2) : RunS (t_is_order_of K (sp_sure_held Cu Cc Cn) sp_is_along) (startR 5 [p.1.wd, p.1.td, natsT p.2]) { nx := fun _ => PyData.none = .bool (aloB ⟨p.1.m, p.1.gs, p.1.ts, p.2⟩), rt := fun _ r => r = .bool (aloB ⟨p.1.m, p.1.gs, p.1.ts, p.2⟩) } := by
  obtain ⟨⟨wd, td, m, gs, ts⟩, o⟩ := p
  obtain ⟨h1, h2, h3⟩ := h
  refine r_seq (r_unp (z_of ((p_held (m := m) (e_var rfl) (e_var rfl) h1 h2).imp fun r ⟨e, hv⟩ => ⟨_, _, e, ?_⟩)))
  exact r_ret (x := .bool (aloB ⟨m, gs, ts, o⟩)) (e_call (⟨m, gs, ts, o⟩ : AloI) (s_cons (e_var rfl) (s_cons (e_var rfl) (e_var rfl).one)) ⟨hv, h3⟩ fun r e => e) rfl
theorem ok_is_order_of (T : Tx K mg) (S : Exs P K mg Cu Cc Cn fI cc cda) : FnOk P w K mg base CX0 7 T.is_order_of.f T.is_order_of.fd P_is_order_of sp_is_order_of :=
  T.is_order_of.F.ok (k := 6) sc_is_order_of (len_I fun _ => rfl) fun cdv A outer s H vs Q E hr h => ⟨_, dv_is_order_of T (ok_sure_held T S) ((ok_is_along T).mono (by decide)) hr, fn_I (N := N_is_order_of) run_is_order_of vs H Q E h⟩
/-! ### behind_whom -/
structure BwI where
  wd : D
  td : D
  g : D
  m : Nat
  gs : List (Nat × Nat)
  ts : List (Option Nat)
def BwI.ok (i : BwI) : Prop := (HeldI.mk i.wd i.td i.m i.gs i.ts).ok ∧ notP i.g = true
def kdB (i : BwI) : Kd := match kdT i.ts with
  | .fine => match kdG i.gs.length i.g with
    | .fine => if outB i.gs i.ts = true then .fine else .cannot
    | k => k
  | k => k
def bwR (i : BwI) (r : D) : Prop := kdB i = .fine ∧ ∃ (k : Nat) (zs : List Nat), i.g = natD k ∧ k < i.gs.length ∧ AncL i.gs i.ts k zs ∧ r = natsT zs
def sp_behind (Cu Cc Cn : Addr) : Sp := spX BwI.ok (fun i => [i.wd, i.td, i.g]) bwR fun i => excR Cu Cc Cn (kdB i)
theorem e_set_of {ρ : Rho} {te : TE} {l : List Nat} (h : EvE te ρ (natsL l)) (hl : l.length < 64) {E : XK} : EvE (tCall sp_set_of [] E (tCons te tNil)) ρ (natsT (asc l)) := e_call l h.one hl fun r e => e
theorem fst_nats (as : List (Nat × Nat)) (b : Nat × Nat → Bool) : ((as.filter b).map fun p => natD p.1) = natsD ((as.filter b).map Prod.fst) := by
  unfold natsD
  rw [List.map_map]
  rfl
theorem run_behind (i : BwI) (h : i.ok) : RunX (t_behind_whom K Cu Cc Cn (sp_sure_held Cu Cc Cn) (sp_sure_guest Cu Cc Cn) sp_is_outcome_in sp_arrows_in sp_set_of) (startR 12 [i.wd, i.td, i.g]) { nx := fun _ => bwR i .none, rt := fun _ r => bwR i r } (excR Cu Cc Cn (kdB i)) := by
  obtain ⟨wd, td, g, m, gs, ts⟩ := i
  obtain ⟨h1, h2⟩ := h
  have h2 : notP g = true := h2
  unfold t_behind_whom
  refine x_seq (x_unp (ex_imp (ex_call (⟨wd, td, m, gs, ts⟩ : HeldI) (s_cons (e_var (x := wd) rfl) (e_var (x := td) rfl).one) h1 fun cls d H hx => ?_) fun r ⟨e, hv⟩ => ⟨_, _, e, ?_⟩))
  · unfold kdB
    show excR Cu Cc Cn (match kdT ts with | .fine => _ | k => k) _ _ _
    have hx : excR Cu Cc Cn (kdT ts) cls d H := hx
    cases hk : kdT ts with
    | fine => rw [hk] at hx; exact hx.elim
    | _ => rw [hk] at hx; exact hx
  have hv : TakV gs ts := hv
  have nd : (held ts).Nodup := by
    have V := hv.V
    have key : ∀ ts : List (Option Nat), (∀ i j p, has ts i p → has ts j p → i = j) → (held ts).Nodup := by
      intro ts
      induction ts with
      | nil => intro _; exact List.nodup_nil
      | cons o ts ih =>
        intro hi
        have ih := ih fun i j p h1 h2 => Nat.succ.inj (hi (i + 1) (j + 1) p (by simpa [has] using h1) (by simpa [has] using h2))
        cases o with
        | none => exact ih
        | some p =>
          refine List.nodup_cons.mpr ⟨fun hm => ?_, ih⟩
          obtain ⟨o, ho, e⟩ := List.mem_filterMap.mp hm
          have e : o = some p := e
          subst e
          obtain ⟨k, hk⟩ := List.getElem?_of_mem ho
          have := hi 0 (k + 1) p (by simp [has]) (by simpa [has] using hk)
          omega
    exact key ts V.inj
  have ekt : kdT ts = .fine := if_pos nd
  have ekb : kdB ⟨wd, td, g, m, gs, ts⟩ = match kdG gs.length g with
    | .fine => if outB gs ts = true then .fine else .cannot
    | k => k := by
    unfold kdB
    show (match kdT ts with | .fine => _ | k => k) = _
    rw [ekt]
  rw [ekb]
  refine x_seq (x_asg (ex_imp (ex_call (⟨m, gs, g⟩ : GueI) (s_cons (e_var (x := webD m gs) rfl) (e_var (x := g) rfl).one) h2 fun cls d H hx => ?_) fun r ⟨e, k, hk, eg⟩ => ?_))
  · have hx : excR Cu Cc Cn (kdG gs.length g) cls d H := hx
    cases hk : kdG gs.length g with
    | fine => rw [hk] at hx; exact hx.elim
    | _ => rw [hk] at hx; exact hx
  have eg : g = natD k := eg
  have hk : k < gs.length := hk
  subst eg
  subst e
  have ekg : kdG gs.length (natD k) = .fine := by
    show (if withinB (natD k) 0 ((gs.length : Int) - 1) = true then Kd.fine else .noguest k) = .fine
    rw [if_pos (within_nat hk)]
  rw [ekg]
  have hl : ts.length = gs.length := hv.V.len
  have hf : gs.length ≤ 20 := hv.few
  refine x_seq (x_if (t_not (t_B (e_call (z := .bool (outB gs ts)) (⟨m, gs, ts⟩ : TakI) (s_cons (e_var rfl) (e_var rfl).one) hv fun r e => e))) (fun e => ?_) fun e => x_of (r_next (x_of ?_)))
  · have e : ¬ outB gs ts = true := by simpa using e
    refine x_raise0 fun H => ?_
    show excR Cu Cc Cn (if outB gs ts = true then .fine else .cannot) _ _ _
    rw [if_neg e]
    exact ⟨rfl, rfl⟩
  -- nothing is raised from here on
  have hkd : kdB ⟨wd, td, natD k, m, gs, ts⟩ = .fine := by
    have e : outB gs ts = true := by simpa using e
    rw [ekb, ekg]
    show (if outB gs ts = true then Kd.fine else .cannot) = .fine
    rw [if_pos e]
  have hlt : ∀ f l, arrB gs ts f l = true → f < ts.length := fun f l z => (arr_lt z).1
  refine r_seq (r_tup3 (k_e (e_lst0) (k_e (x := natsL [k]) (e_lst (e_var (x := natD k) rfl).one (Nat.le_of_ble_eq_true rfl)) (k_z (z_of ((p_arrows (m := m) (e_var rfl) (e_var rfl) hv).imp fun r hr => k_nil ?_))))))
  obtain ⟨as, rfl, has, hal⟩ := hr
  refine ⟨_, _, _, rfl, Nat.le_of_ble_eq_true rfl, Nat.le_of_ble_eq_true rfl, Nat.le_of_ble_eq_true rfl, ?_⟩
  refine r_seq (r_while (fun q ρ' => ∃ (found now : List Nat) (s9 : Option Sl), q = srchM ts.length found now ∧ Srch (arrB gs ts) ts.length k found now ∧ ρ' = [some (.d wd), some (.d td), some (.d (natD k)), some (.d (webD m gs)), some (.d (takD ts)), some (.d (natD k)), some (.d (natsL found)), some (.d (natsL now)), some (.d (.list (as.map pairD))), s9, none, none]) (srchM ts.length [] [k]) ⟨[], [k], none, rfl, Srch.start, rfl⟩ ?_)
  rintro q ρ1 ⟨found, now, s9, rfl, S, rfl⟩
  have hfl := nodup_le S.nd S.lt
  refine ⟨!decide (now = []), t_test (e_op (e_var (x := natsL now) rfl).b e_lst0.b o_neL), fun hb => ?_, fun hb => ?_⟩
  · have hne : now ≠ [] := by simpa using hb
    have hlc := f_lc (ρ := [some (.d wd), some (.d td), some (.d (natD k)), some (.d (webD m gs)), some (.d (takD ts)), some (.d (natD k)), some (.d (natsL found)), some (.d (natsL now)), some (.d (.list (as.map pairD))), s9, none, none]) (wi := iSeq K (tVar 8)) (g := gTup K 2 (gCons (gName 10) (gCons (gName 11) gNil))) (vs := [10, 11]) (tt := tAnd (tTest (tOp (rIn K false) (tVar 11) (tVar 7))) (tTest (tOp (rIn K true) (tVar 10) (tVar 6)))) (te := tVar 10)
      as pairD (fun p => decide (p.2 ∈ now) && !decide (p.1 ∈ found)) (fun p => natD p.1) (i_seq (x := .list (as.map pairD)) (e_var rfl) (.inl rfl)).i (fun y hy => bndc_pair (by simp) (by simp) ⟨t_and (t_test (e_op (e_var (x := natD y.2) rfl).b (e_var (x := natsL now) rfl).b o_inN)) fun _ => t_test (e_op (e_var (x := natD y.1) rfl).b (e_var (x := natsL found) rfl).b o_niN), fun _ => e_var rfl⟩) (by omega)
    rw [fst_nats] at hlc
    refine r_seq (r_asg hlc.e ?_)
    generalize hal' : (as.filter fun p => decide (p.2 ∈ now) && !decide (p.1 ∈ found)).map Prod.fst = al
    have hall : al.length < 64 := by
      rw [← hal', List.length_map]
      exact Nat.lt_of_le_of_lt (List.length_filter_le _ _) hal
    have hmem : ∀ f, f ∈ asc al ↔ (∃ g, g ∈ now ∧ arrB gs ts f g = true) ∧ f ∉ found := fun f => by
      rw [asc_mem, ← hal', List.mem_map]
      constructor
      · rintro ⟨⟨f', l⟩, hm, e⟩
        have e : f' = f := e
        subst e
        obtain ⟨h3, h4⟩ := List.mem_filter.mp hm
        rw [Bool.and_eq_true] at h4
        exact ⟨⟨l, of_decide_eq_true h4.1, (has _ _).mp h3⟩, by simpa using h4.2⟩
      · rintro ⟨⟨g, h3, h4⟩, h5⟩
        exact ⟨(f, g), List.mem_filter.mpr ⟨(has _ _).mpr h4, by rw [Bool.and_eq_true]; exact ⟨decide_eq_true h3, by simpa using h5⟩⟩, rfl⟩
    have ndA : (asc al).Nodup := (asc_lt al).imp fun h => Nat.ne_of_lt h
    have nd' : (found ++ asc al).Nodup := by
      rw [List.nodup_append]
      exact ⟨S.nd, ndA, fun a ha b hb e => by subst e; exact ((hmem a).mp hb).2 ha⟩
    have S' : Srch (arrB gs ts) ts.length k (found ++ asc al) (asc al) := S.step hlt hmem (fun f => List.mem_append) nd'
    have hfl' := nodup_le S'.nd S'.lt
    rw [List.length_append] at hfl'
    have v9 : EvE (tVar 9) ([some (.d wd), some (.d td), some (.d (natD k)), some (.d (webD m gs)), some (.d (takD ts)), some (.d (natD k)), some (.d (natsL found)), some (.d (natsL now)), some (.d (.list (as.map pairD))), some (.d (natsL al)), none, none] : Rho) (natsL al) := e_var rfl
    have hst := e_lst (s_star (K := K) (e_var (ρ := [some (.d wd), some (.d td), some (.d (natD k)), some (.d (webD m gs)), some (.d (takD ts)), some (.d (natD k)), some (.d (natsL found)), some (.d (natsL now)), some (.d (.list (as.map pairD))), some (.d (natsL al)), none, none]) (i := 6) (x := natsL found) rfl) (.inl rfl) (s_star (K := K) (e_set_of (E := E0) v9 hall) (.inr rfl) s_nil)) (by rw [List.append_nil, List.length_append, natsD_len, natsD_len]; omega)
    rw [List.append_nil, ← natsD_app] at hst
    refine r_tup2 (k_e (x := natsL (found ++ asc al)) hst (k_e (x := natsL (asc al)) (f_cb (e_set_of v9 hall).b.one (c_list (.inr rfl))).e (k_nil ⟨_, _, rfl, Nat.le_of_ble_eq_true rfl, Nat.le_of_ble_eq_true rfl, ?_⟩)))
    exact ⟨srchM ts.length (found ++ asc al) (asc al), S'.less hne (by rw [List.length_append]; omega), found ++ asc al, asc al, some (.d (natsL al)), rfl, S', rfl⟩
  · have hne : now = [] := by simpa using hb
    subst hne
    refine r_ret (e_set_of (l := found) (e_var rfl) (by omega)) ⟨hkd, k, asc found, rfl, hk, ⟨asc_lt found, fun x => ?_⟩, rfl⟩
    rw [asc_mem, S.done]
theorem ok_behind (T : Tx K mg) (S : Exs P K mg Cu Cc Cn fI cc cda) : FnOk P w K mg base (L2.CX P w) 7 T.behind_whom.f T.behind_whom.fd P_behind_whom (sp_behind Cu Cc Cn) :=
  T.behind_whom.F.okX (k := 6) sc_behind_whom (len_X fun _ => rfl) fun cdv A outer s H vs Q E hr h => ⟨_, dv_behind_whom T S (ok_sure_held T S) ((ok_sure_guest T S).mono (by decide)) ((ok_is_outcome_in T).mono (by decide)) ((ok_arrows_in T).mono (by decide)) ((ok_set_of T).mono (by decide)) hr, fn_X (N := N_behind_whom) run_behind vs H Q E h⟩
end
end Lw
set_option Elab.async false
set_option linter.all false
set_option maxRecDepth 100000
set_option maxHeartbeats 4000000
namespace Lw
open PySem PySem.Spec PyProof.Rows L2
/-! ### _law_reply -/
def ts_cannot (K : PySem.W.Frag) (Cc : Addr) : Addr → Value → Option Addr → TS := fun a cls d => tAsg (tLst (tCons (tC (.str "cannot")) (tCons (tCB (rIsE2 K Cc a cls d) (tCons (tVar 4) (tCons (tC (.ty "ValueError")) tNil))) tNil))) (gName 3)
def ts_guest (K : PySem.W.Frag) (Cn : Addr) : Addr → Value → Option Addr → TS := fun a cls d => tAsg (tLst (tCons (tC (.str "guest")) (tCons (tGuest Cn a cls d (tVar 5)) (tCons (tCB (rIsE2 K Cn a cls d) (tCons (tVar 5) (tCons (tC (.ty "LookupError")) tNil))) tNil)))) (gName 3)
def ts_unfit (K : PySem.W.Frag) (Cu : Addr) : Addr → Value → Option Addr → TS := fun a cls d => tAsg (tLst (tCons (tC (.str "unfit")) (tCons (tCB (rIsE2 K Cu a cls d) (tCons (tVar 6) (tCons (tC (.ty "ValueError")) tNil))) tNil))) (gName 3)
def clauses (K : PySem.W.Frag) (Cu Cc Cn : Addr) : List (Value × Nat × (Addr → Value → Option Addr → TS)) := [(.ref Cc, 4, ts_cannot K Cc), (.ref Cn, 5, ts_guest K Cn), (.ref Cu, 6, ts_unfit K Cu)]
def t_try (K : PySem.W.Frag) (Cu Cc Cn : Addr) : TS := fun D σ H => tAsg (tCallS (sp_behind Cu Cc Cn) (WE (wManyAs K (fun _ _ _ _ => False) D (clauses K Cu Cc Cn))) (tCons (tVar 0) (tCons (tVar 1) (tCons (tVar 2) tNil)))) (gName 3) D σ H
def t_reply (K : PySem.W.Frag) (Cu Cc Cn : Addr) : TS := tSeq (tAsg (tC (.str "none")) (gName 3)) (tSeq (t_try K Cu Cc Cn) (tRet (tVar 3)))
section
variable {P : Program} {w : World} {K : PySem.W.Frag} {mg : Str → Option Value} {base : Heap} {Cu Cc Cn fI cc cda : Addr}
theorem dv_reply {k : Nat} {cdv : Value} {A : Around} {outer : List Env} {s : Shared} {H : Hp} {E : XK} (T : Tx K mg) (S : Exs P K mg Cu Cc Cn fI cc cda) (G : FnOk P w K mg base (L2.CX P w) k T.behind_whom.f T.behind_whom.fd P_behind_whom (sp_behind Cu Cc Cn))
    (hr : Room k (A.deeper (envOfC "_law_reply" (defScope s_l_reply) s.heap.objs.size T.l_reply.f cdv))) : PSs (cxOf CX0 P w K mg base N_l_reply "_law_reply" (defScope s_l_reply) T.l_reply.f cdv A outer s H E).nox (defBody s_l_reply) (t_reply K Cu Cc Cn) :=
  pss_cons (ps_set (i := 3) (sc_l_reply).nd rfl (by first | exact Or.inl rfl | exact Or.inr rfl) pe_str)
    (pss_cons (ps_try_manyAs (tb := fun W => tAsg (tCallS (sp_behind Cu Cc Cn) (WE W) (tCons (tVar 0) (tCons (tVar 1) (tCons (tVar 2) tNil)))) (gName 3)) (l := clauses K Cu Cc Cn) (Wout := fun _ _ _ _ => False) rfl rfl (sc_l_reply).nd takes0
      (fun W pn xe tk _ => pss_one (ps_set (i := 3) (sc_l_reply).nd rfl (Or.inl rfl) (by exact (pe_callS G hr (by rfl) T.behind_whom.g T.behind_whom.F.kp T.behind_whom.b (fun σ => passAt tk σ) (by exact (pa_cons (pv 0) (pa_cons (pv 1) (pa_cons (pv 2) pa_nil))))))))
      (.cons rfl rfl ⟨by rfl, by decide, .inl S.gC⟩ (fun a oe cls d pn hz hf => pss_one (ps_set (i := 3) (sc_l_reply).nd rfl (Or.inl rfl) (by exact pe_lst (pa_cons pe_str (pa_cons (pe_callB (call_isE2 S.iC hz hf) (by rfl) T.A.n_isinstance (by decide +kernel) (pa_cons (pv 4) (pa_cons (pe_bltn (v := .ty "ValueError") (by rfl) T.A.n_ValueError (by decide +kernel) rfl) pa_nil))) pa_nil)))))
        (.cons rfl rfl ⟨by rfl, by decide, .inl S.ng.gC⟩ (fun a oe cls d pn hz hf => pss_one (ps_set (i := 3) (sc_l_reply).nd rfl (Or.inl rfl) (by exact pe_lst (pa_cons pe_str (pa_cons (pe_guest S.ng hz hf (pv 5)) (pa_cons (pe_callB (call_isE2 S.iN hz hf) (by rfl) T.A.n_isinstance (by decide +kernel) (pa_cons (pv 5) (pa_cons (pe_bltn (v := .ty "LookupError") (by rfl) T.A.n_LookupError (by decide +kernel) rfl) pa_nil))) pa_nil))))))
          (.cons rfl rfl ⟨by rfl, by decide, .inl S.gU⟩ (fun a oe cls d pn hz hf => pss_one (ps_set (i := 3) (sc_l_reply).nd rfl (Or.inl rfl) (by exact pe_lst (pa_cons pe_str (pa_cons (pe_callB (call_isE2 S.iU hz hf) (by rfl) T.A.n_isinstance (by decide +kernel) (pa_cons (pv 6) (pa_cons (pe_bltn (v := .ty "ValueError") (by rfl) T.A.n_ValueError (by decide +kernel) rfl) pa_nil))) pa_nil)))))
            .nil))))
    (pss_one (ps_ret (pv 3))))
def replyD : Kd → D
  | .cannot => .list [.str "cannot", .bool true]
  | .noguest z => .list [.str "guest", .int z, .bool true]
  | .unfit => .list [.str "unfit", .bool true]
  | .fine => .none
theorem tr_setN {σ : L2.St} {ρ : Rho} {H G : Hp} {i : Nat} {v : Option V} : Tr σ ρ H G (σ.set i v) (ρ.set i none) H G := ⟨fun _ _ e _ => e, fun _ e => e, Same.refl G, fun _ e q => absurd e q, fun a m => by
  obtain ⟨j, w, h1, h2⟩ := m
  by_cases e : i = j
  · subst e
    by_cases hi : i < ρ.length
    · rw [List.getElem?_set_self hi] at h1
      cases h1
    · rw [List.getElem?_eq_none (by rw [List.length_set]; omega)] at h1
      cases h1
  · rw [List.getElem?_set_ne e] at h1 h2
    exact .inl ⟨j, w, h1, h2⟩⟩
theorem cl_end {σ : L2.St} {ρ : Rho} {H G H' G' : Hp} {e : Nat} {a p : Addr} {xs : List V} {ds : List D} (k : Ok σ H' G' ρ) (x : Px H G H' G') (hp : H' p = none) (r : RpL G' xs ds) :
    Tr σ ρ H G (((σ.set e (some (.ref a))).set 3 (some (.ref p))).set e none) (((ρ.set e none).set 3 (some (.d (.list ds)))).set e none) (upd H' p (.lst xs)) (upd G' p (.lst xs)) ∧
      Ok (((σ.set e (some (.ref a))).set 3 (some (.ref p))).set e none) (upd H' p (.lst xs)) (upd G' p (.lst xs)) (((ρ.set e none).set 3 (some (.d (.list ds)))).set e none) := by
  have x2 := x.trans (Px.new2 (o := .lst xs) x.s hp)
  have k2 := k.px (Px.new2 (o := .lst xs) k.sub hp)
  have rr : Rp (upd G' p (.lst xs)) (.ref p) (.list ds) := .lst upd_same (r.mono (same_new (x.s.free hp)))
  exact ⟨((Te.of x2).tr.trans tr_setN).trans (tr_setD.trans tr_setN), ((k2.setN (v := some (.ref a))).setD rr).setN⟩
/-- the try of _law_reply, where something is raised -/
theorem r_try {ρ : Rho} {Pd : De} (S : Exs P K mg Cu Cc Cn fI cc cda) (i : BwI) (hi : i.ok) (hk : kdB i ≠ .fine) (h0 : ρ[0]? = some (some (.d i.wd))) (h1 : ρ[1]? = some (some (.d i.td))) (h2 : ρ[2]? = some (some (.d i.g))) (hl : ρ.length = 7)
    (hn : ∀ e, e = 4 ∨ e = 5 ∨ e = 6 → Pd.nx (((ρ.set e none).set 3 (some (.d (replyD (kdB i))))).set e none)) : RunS (t_try K Cu Cc Cn) ρ Pd := fun σ H G k D q1 q2 q3 q4 => by
  have ha : EvS (tCons (tVar 0) (tCons (tVar 1) (tCons (tVar 2) tNil))) ρ [i.wd, i.td, i.g] := s_cons (e_var h0) (s_cons (e_var h1) (e_var h2).one)
  show (tCons (tVar 0) (tCons (tVar 1) (tCons (tVar 2) tNil))) σ H fun vs H1 => sp_behind Cu Cc Cn vs H1 (fun v H2 => D.nx (σ.set 3 (some v)) H2) (WE (wManyAs K (fun _ _ _ _ => False) D (clauses K Cu Cc Cn)) σ)
  refine ha σ H G k _ fun vs H1 G1 x1 r1 => ?_
  exact ⟨G1, i, x1.s, r1, hi, fun v r H' G' x' r' hr => absurd hr.1 hk, fun cls d H' G' x' hx => by
    have x2 := x1.trans x'
    have k2 := k.px x2
    have hsl : σ.length = 7 := by rw [k.len, hl]
    have hx : excR Cu Cc Cn (kdB i) cls d H' := hx
    cases hkd : kdB i with
    | fine => exact absurd hkd hk
    | cannot =>
      rw [hkd] at hx
      obtain ⟨rfl, rfl⟩ := hx
      refine ⟨true, S.eCC, fun _ a ha => ?_, fun z => Bool.noConfusion z⟩
      refine ⟨.ref a, by rw [List.getElem?_set_self (by omega)], .ty "ValueError", .type "ValueError", true, rfl, rfl, fun u h => h, S.vC, fun dd e => (by cases e), by show 2 ≤ sizeLine; decide, fun p hp => ?_⟩
      obtain ⟨t3, k3⟩ := cl_end (e := 4) (a := a) k2 x2 hp (.cons (.str "cannot") (.one (.bl true)))
      have hn4 := hn 4 (.inl rfl)
      rw [hkd] at hn4
      exact q1 _ _ _ _ t3 k3 hn4
    | unfit =>
      rw [hkd] at hx
      obtain ⟨rfl, rfl⟩ := hx
      refine ⟨false, S.eUC, fun z => Bool.noConfusion z, fun _ => ⟨false, S.eUN, fun z => Bool.noConfusion z, fun _ => ⟨true, S.eUU, fun _ a ha => ?_, fun z => Bool.noConfusion z⟩⟩⟩
      refine ⟨.ref a, by rw [List.getElem?_set_self (by omega)], .ty "ValueError", .type "ValueError", true, rfl, rfl, fun u h => h, S.vU, fun dd e => (by cases e), by show 2 ≤ sizeLine; decide, fun p hp => ?_⟩
      obtain ⟨t3, k3⟩ := cl_end (e := 6) (a := a) k2 x2 hp (.cons (.str "unfit") (.one (.bl true)))
      have hn4 := hn 6 (.inr (.inr rfl))
      rw [hkd] at hn4
      exact q1 _ _ _ _ t3 k3 hn4
    | noguest z =>
      rw [hkd] at hx
      obtain ⟨rfl, dd, rfl, hdd⟩ := hx
      refine ⟨false, S.eNC, fun z => Bool.noConfusion z, fun _ => ⟨true, S.eNN, fun _ a ha => ?_, fun z => Bool.noConfusion z⟩⟩
      refine ⟨.ref a, by rw [List.getElem?_set_self (by omega)], rfl, rfl, dd, .int z, rfl, hdd, .ref a, by rw [List.getElem?_set_self (by omega)], .ty "LookupError", .type "LookupError", true, rfl, rfl, fun u h => h, S.vN, fun dd' e => (by cases e; exact ⟨_, hdd⟩), by show 3 ≤ sizeLine; decide, fun p hp => ?_⟩
      obtain ⟨t3, k3⟩ := cl_end (e := 5) (a := a) k2 x2 hp (.cons (.str "guest") (.cons (.int z) (.one (.bl true))))
      have hn4 := hn 5 (.inr (.inl rfl))
      rw [hkd] at hn4
      exact q1 _ _ _ _ t3 k3 hn4⟩
def sp_reply : Sp := spI (fun i : BwI => i.ok ∧ kdB i ≠ .fine) (fun i => [i.wd, i.td, i.g]) fun i r => r = replyD (kdB i)
theorem run_reply (S : Exs P K mg Cu Cc Cn fI cc cda) (i : BwI) (h : i.ok ∧ kdB i ≠ .fine) : RunS (t_reply K Cu Cc Cn) (startR 7 [i.wd, i.td, i.g]) { nx := fun _ => PyData.none = replyD (kdB i), rt := fun _ r => r = replyD (kdB i) } := by
  refine r_seq (r_asg e_str ?_)
  refine r_seq (r_try S i h.1 h.2 rfl rfl rfl rfl fun e he => ?_)
  refine r_ret (x := replyD (kdB i)) (e_var ?_) rfl
  rcases he with rfl | rfl | rfl <;> rfl
theorem ok_reply (T : Tx K mg) (S : Exs P K mg Cu Cc Cn fI cc cda) : FnOk P w K mg base CX0 8 T.l_reply.f T.l_reply.fd P_l_reply sp_reply :=
  T.l_reply.F.ok (k := 7) sc_l_reply (len_I fun _ => rfl) fun cdv A outer s H vs Q E hr h => ⟨_, dv_reply T S (ok_behind T S) hr, fn_I (N := N_l_reply) (run_reply S) vs H Q E h⟩
end
end Lw
set_option Elab.async false
set_option linter.all false
set_option maxRecDepth 100000
set_option maxHeartbeats 4000000
namespace Lw
open PySem PySem.Spec PyProof.Rows L2
/-! ### a call by names alone -/
def tCallKw (sp : Sp) (gV : List V → List V → List V) (E : XK) (tk : TA) : TE := fun σ H Q => tk σ H fun zs H2 => sp (gV [] zs) H2 Q E
theorem pe_callKw {X : Cx} {CX : CXT} {k : Nat} {f : Addr} {fd : FuncData} {ps ks : List Str} {sp : Sp} {E : XK} {x : Str} {p pos : Pos} {kws : List Keyword} {tk : TA} {g : List Value → List Value → List Value} {gV : List V → List V → List V}
    (F : FnOk X.prog X.w X.K X.mg X.base CX k f fd ps sp) (hr : Room k X.A) (hg : Gl X x) (hm : X.mg x = some (.ref f)) (hk : PySem.W.keepIn X.K (.ref f) = true) (hb : KBinds X.K fd ps ks g gV) (hx : Passes CX X E) (hkw : PK X kws tk)
    (hdb : (x == ("__debug__" : Str)) = false := by decide) (hall : (backToKw pos (keywordEach kws X.env)).all (·.1.isSome) = true := by rfl) (hks : (backToKw pos (keywordEach kws X.env)).filterMap (·.1) = ks := by rfl)
    (hpl : ((backTo pos (starEach [] X.env)).any (·.1) || (backToKw pos (keywordEach kws X.env)).any (·.1.isNone)) = false := by rfl) : PE X (.Call (.Name x p) [] kws pos) (tCallKw sp gV E tk) := ⟨fun pins s σ H Q I h => by
  refine wpAny_Call_Name_kw (ld_glob I hg hm ?_ hdb)
  refine PySem.W.callWith_KW0 (h₀ := X.base) I.ok.mod.kin hk hall (thn (hkw.run pos pins s σ H _ I h) fun ws s1 ⟨zs, H1, I1, rz, q1⟩ => ⟨I1.kIn, ?_⟩) hpl
  rw [hks]
  exact run_fnk F hr hb hx I1 .nil rz q1⟩
def gKW : List Value → List Value → List Value
  | [], [a, b, c] => [c, b, a]
  | _, _ => []
def gKV : List V → List V → List V
  | [], [a, b, c] => [c, b, a]
  | _, _ => []
theorem kb_behind {K : PySem.W.Frag} {f : Addr} {fd : FuncData} (F : Fun K "behind_whom" "behind_whom" s_behind_whom f fd) : KBinds K fd P_behind_whom ["guest", "taking", "web"] gKW gKV := by
  obtain ⟨oc, od, kV, doc, pm, an, cdv, ct, osl, rfl, lk, hcd⟩ := F.ex
  refine ⟨fun s us ws hk hl => ?_, fun {vs us zs ws} r rz => ?_⟩
  · match us, ws, hl with
    | [], [a, b, c], _ => exact BindsTo.of_eq rfl
  · cases r with
    | cons => exact .nil
    | nil =>
      cases rz with
      | nil => exact .nil
      | cons a rz =>
        cases rz with
        | nil => exact .nil
        | cons b rz =>
          cases rz with
          | nil => exact .nil
          | cons c rz =>
            cases rz with
            | nil => exact .cons c (.cons b (.cons a .nil))
            | cons => exact .nil
section
variable {P : Program} {w : World} {K : PySem.W.Frag} {mg : Str → Option Value} {base : Heap} {Cu Cc Cn fI cc cda : Addr}
def t_by_hand (K : PySem.W.Frag) (sp_behind_whom sp_l_reply sp_is_order_of sp_order_of sp_l_same sp_l_lists : Sp) : TS := (tSeq (tAsg (tTup (tCons (tTupN (tCons (tC (.int 3)) (tCons (tTupN (tCons (tTupN (tCons (tC (.int 0)) (tCons (tC (.int 1)) tNil))) (tCons (tTupN (tCons (tC (.int 0)) (tCons (tC (.int 1)) tNil))) (tCons (tTupN (tCons (tC (.int 1)) (tCons (tC (.int 2)) tNil))) tNil)))) tNil))) (tCons (tTupN (tCons (tC (.int 2)) (tCons (tTupN (tCons (tTupN (tCons (tC (.int 0)) (tCons (tC (.int 1)) tNil))) (tCons (tTupN (tCons (tC (.int 1)) (tCons (tC (.int 0)) tNil))) tNil))) tNil))) tNil))) (gTup K 2 (gCons (gName 0) (gCons (gName 1) gNil))))
    (tSeq (tAsg (tLst (tCons (tLc (iRng1 (tCons (tC (.int 3)) tNil)) (gName 6) tYes (tCall sp_behind_whom [] E0 (tCons (tVar 0) (tCons (tTupN (tCons (tC (.int 0)) (tCons (tC (.int 1)) (tCons (tC (.int 2)) tNil)))) (tCons (tVar 6) tNil)))) [6]) (tCons (tLc (iRng1 (tCons (tC (.int 3)) tNil)) (gName 6) tYes (tCall sp_behind_whom [] E0 (tCons (tVar 0) (tCons (tTupN (tCons (tC (.int 0)) (tCons (tC .non) (tCons (tC (.int 1)) tNil)))) (tCons (tVar 6) tNil)))) [6]) (tCons (tCallKw sp_behind_whom gKV E0 (tCons (tC (.int 1)) (tCons (tLst (tCons (tC (.int 0)) (tCons (tC .non) (tCons (tC (.int 1)) tNil)))) (tCons (tCall sp_l_lists [] E0 (tCons (tVar 0) tNil)) tNil)))) tNil)))) (gName 2))
    (tSeq (tAsg (tLst (tCons (tLst (tCons (tTupN tNil) (tCons (tTupN (tCons (tC (.int 0)) tNil)) (tCons (tTupN (tCons (tC (.int 0)) (tCons (tC (.int 1)) tNil))) tNil)))) (tCons (tLst (tCons (tTupN tNil) (tCons (tTupN (tCons (tC (.int 0)) (tCons (tC (.int 2)) tNil))) (tCons (tTupN tNil) tNil)))) (tCons (tTupN (tCons (tC (.int 0)) (tCons (tC (.int 2)) tNil))) tNil)))) (gName 3))
    (tSeq (tAsg (tOp rCat (tVar 2) (tLst (tCons (tCall sp_l_reply [] E0 (tCons (tVar 0) (tCons (tTupN (tCons (tC (.int 0)) (tCons (tC (.int 1)) (tCons (tC (.int 2)) tNil)))) (tCons (tC (.int 3)) tNil)))) (tCons (tCall sp_l_reply [] E0 (tCons (tVar 1) (tCons (tTupN (tCons (tC (.int 1)) (tCons (tC (.int 0)) tNil))) (tCons (tC (.int 2)) tNil)))) (tCons (tCall sp_l_reply [] E0 (tCons (tVar 1) (tCons (tTupN (tCons (tC (.int 1)) (tCons (tC (.int 0)) tNil))) (tCons (tC (.int 0)) tNil)))) tNil))))) (gName 2))
    (tSeq (tAsg (tOp rCat (tVar 2) (tLst (tCons (tCall sp_l_reply [] E0 (tCons (tVar 0) (tCons (tTupN (tCons (tC .non) (tCons (tC .non) (tCons (tC .non) tNil)))) (tCons (tC (.int 1)) tNil)))) (tCons (tCall sp_l_reply [] E0 (tCons (tVar 0) (tCons (tTupN (tCons (tC (.int 0)) (tCons (tC (.int 1)) (tCons (tC (.int 2)) tNil)))) (tCons (tC (.bl true)) tNil)))) (tCons (tCall sp_l_reply [] E0 (tCons (tVar 0) (tCons (tTupN (tCons (tC (.int 0)) (tCons (tC (.int 0)) (tCons (tC (.int 2)) tNil)))) (tCons (tC (.int 0)) tNil)))) tNil))))) (gName 2))
    (tSeq (tAsg (tOp rCat (tVar 3) (tLst (tCons (tLst (tCons (tC (.str "guest")) (tCons (tC (.int 3)) (tCons (tC (.bl true)) tNil)))) (tCons (tLst (tCons (tC (.str "guest")) (tCons (tC (.int 2)) (tCons (tC (.bl true)) tNil)))) (tCons (tLst (tCons (tC (.str "cannot")) (tCons (tC (.bl true)) tNil))) (tCons (tLst (tCons (tC (.str "cannot")) (tCons (tC (.bl true)) tNil))) (tCons (tLst (tCons (tC (.str "unfit")) (tCons (tC (.bl true)) tNil))) (tCons (tLst (tCons (tC (.str "unfit")) (tCons (tC (.bl true)) tNil))) tNil)))))))) (gName 3))
    (tSeq (tPar 4 5 (tCons (tTupN (tCons (tC (.int 9)) (tCons (tCB (rTupN K) (tCons (tOp rCat (tLst (tCons (tTupN (tCons (tC (.int 0)) (tCons (tC (.int 1)) tNil))) tNil)) (tLc (iRng1 (tCons (tC (.int 8)) tNil)) (gName 6) tYes (tTupN (tCons (tVar 6) (tCons (tOp rAddI (tVar 6) (tC (.int 1))) tNil))) [6])) tNil)) tNil))) (tCons (tOp (rCatN K) (tTupN (tCons (tC (.int 0)) tNil)) (tTupRgN (tRg2 (tC (.int 1)) (tC (.int 9))))) tNil)))
    (tSeq (tAsg (tOp rCat (tVar 2) (tLst (tCons (tCall sp_order_of [] E0 (tCons (tVar 4) (tCons (tVar 5) tNil))) (tCons (tCall sp_behind_whom [] E0 (tCons (tVar 4) (tCons (tVar 5) (tCons (tC (.int 8)) tNil)))) (tCons (tCall sp_is_order_of [] E0 (tCons (tVar 4) (tCons (tVar 5) (tCons (tTupN (tCons (tC (.int 0)) (tCons (tC (.int 1)) (tCons (tC (.int 2)) (tCons (tC (.int 3)) (tCons (tC (.int 4)) (tCons (tC (.int 5)) (tCons (tC (.int 6)) (tCons (tC (.int 8)) (tCons (tC (.int 7)) tNil)))))))))) tNil)))) tNil))))) (gName 2))
    (tRet (tCall sp_l_same [] E0 (tCons (tVar 2) (tCons (tOp rCat (tVar 3) (tLst (tCons (tTupRgN (tRg1 (tC (.int 9)))) (tCons (tTupRgN (tRg1 (tC (.int 8)))) (tCons (tC (.bl false)) tNil))))) tNil))))))))))))
theorem dv_by_hand {k : Nat} {cdv : Value} {A : Around} {outer : List Env} {s : Shared} {H : Hp} {E : XK} (T : Tx K mg) {sp_behind_whom : Sp} (G_behind_whom : FnOk P w K mg base (L2.CX P w) k T.behind_whom.f T.behind_whom.fd P_behind_whom sp_behind_whom) {sp_l_reply : Sp} (G_l_reply : FnOk P w K mg base CX0 k T.l_reply.f T.l_reply.fd P_l_reply sp_l_reply) {sp_is_order_of : Sp} (G_is_order_of : FnOk P w K mg base CX0 k T.is_order_of.f T.is_order_of.fd P_is_order_of sp_is_order_of) {sp_order_of : Sp} (G_order_of : FnOk P w K mg base CX0 k T.order_of.f T.order_of.fd P_order_of sp_order_of) {sp_l_same : Sp} (G_l_same : FnOk P w K mg base CX0 k T.l_same.f T.l_same.fd P_l_same sp_l_same) {sp_l_lists : Sp} (G_l_lists : FnOk P w K mg base CX0 k T.l_lists.f T.l_lists.fd P_l_lists sp_l_lists)
    (hr : Room k (A.deeper (envOfC "_law_by_hand_right" (defScope s_l_by_hand_right) s.heap.objs.size T.l_by_hand_right.f cdv))) : PSs (cxOf CX0 P w K mg base N_l_by_hand_right "_law_by_hand_right" (defScope s_l_by_hand_right) T.l_by_hand_right.f cdv A outer s H E).nox (defBody s_l_by_hand_right) (t_by_hand K sp_behind_whom sp_l_reply sp_is_order_of sp_order_of sp_l_same sp_l_lists) :=
  (pss_cons (ps_asg (pe_tup (pa_cons (pe_tupN (pa_cons pe_int (pa_cons (pe_tupN (pa_cons (pe_tupN (pa_cons pe_int (pa_cons pe_int pa_nil))) (pa_cons (pe_tupN (pa_cons pe_int (pa_cons pe_int pa_nil))) (pa_cons (pe_tupN (pa_cons pe_int (pa_cons pe_int pa_nil))) pa_nil)))) pa_nil))) (pa_cons (pe_tupN (pa_cons pe_int (pa_cons (pe_tupN (pa_cons (pe_tupN (pa_cons pe_int (pa_cons pe_int pa_nil))) (pa_cons (pe_tupN (pa_cons pe_int (pa_cons pe_int pa_nil))) pa_nil))) pa_nil))) pa_nil))) (pg_tup rfl (pgs_cons (pg_name (i := 0) (sc_l_by_hand_right).nd rfl (by first | exact Or.inl rfl | exact Or.inr rfl)) (pgs_cons (pg_name (i := 1) (sc_l_by_hand_right).nd rfl (by first | exact Or.inl rfl | exact Or.inr rfl)) pgs_nil))))
      (pss_cons (ps_set (i := 2) (sc_l_by_hand_right).nd rfl (by first | exact Or.inl rfl | exact Or.inr rfl) (pe_lst (pa_cons (pe_lc (own := [("_law_k", 6)]) (by rfl) (sc_l_by_hand_right).nd (pi_range1 (by rfl) T.A.n_range (pa_cons pe_int pa_nil)) (blkOk_by (by kernel_rfl)) (fun _ _ _ _ _ => (pg_name (i := 6) (sc_l_by_hand_right).nd rfl (by first | exact Or.inl rfl | exact Or.inr rfl))) (fun _ _ _ _ _ => pts_nil) (fun _ _ _ _ _ => (pe_call G_behind_whom hr (by rfl) T.behind_whom.g T.behind_whom.F.kp T.behind_whom.b .nil passL (pa_cons (pv 0) (pa_cons (pe_tupN (pa_cons pe_int (pa_cons pe_int (pa_cons pe_int pa_nil)))) (pa_cons (pv 6) pa_nil)))))) (pa_cons (pe_lc (own := [("_law_k", 6)]) (by rfl) (sc_l_by_hand_right).nd (pi_range1 (by rfl) T.A.n_range (pa_cons pe_int pa_nil)) (blkOk_by (by kernel_rfl)) (fun _ _ _ _ _ => (pg_name (i := 6) (sc_l_by_hand_right).nd rfl (by first | exact Or.inl rfl | exact Or.inr rfl))) (fun _ _ _ _ _ => pts_nil) (fun _ _ _ _ _ => (pe_call G_behind_whom hr (by rfl) T.behind_whom.g T.behind_whom.F.kp T.behind_whom.b .nil passL (pa_cons (pv 0) (pa_cons (pe_tupN (pa_cons pe_int (pa_cons pe_non (pa_cons pe_int pa_nil)))) (pa_cons (pv 6) pa_nil)))))) (pa_cons (pe_callKw G_behind_whom hr (by rfl) T.behind_whom.g T.behind_whom.F.kp (kb_behind T.behind_whom.F) passL (pk_cons pe_int (pk_cons (pe_lst (pa_cons pe_int (pa_cons pe_non (pa_cons pe_int pa_nil)))) (pk_cons (pe_call G_l_lists hr (by rfl) T.l_lists.g T.l_lists.F.kp T.l_lists.b .nil pass0 (pa_cons (pv 0) pa_nil)) pk_nil)))) pa_nil)))))
      (pss_cons (ps_set (i := 3) (sc_l_by_hand_right).nd rfl (by first | exact Or.inl rfl | exact Or.inr rfl) (pe_lst (pa_cons (pe_lst (pa_cons (pe_tupN pa_nil) (pa_cons (pe_tupN (pa_cons pe_int pa_nil)) (pa_cons (pe_tupN (pa_cons pe_int (pa_cons pe_int pa_nil))) pa_nil)))) (pa_cons (pe_lst (pa_cons (pe_tupN pa_nil) (pa_cons (pe_tupN (pa_cons pe_int (pa_cons pe_int pa_nil))) (pa_cons (pe_tupN pa_nil) pa_nil)))) (pa_cons (pe_tupN (pa_cons pe_int (pa_cons pe_int pa_nil))) pa_nil)))))
      (pss_cons (ps_set (i := 2) (sc_l_by_hand_right).nd rfl (by first | exact Or.inl rfl | exact Or.inr rfl) (pe_op op_cat (pv 2) (pe_lst (pa_cons (pe_call G_l_reply hr (by rfl) T.l_reply.g T.l_reply.F.kp T.l_reply.b .nil pass0 (pa_cons (pv 0) (pa_cons (pe_tupN (pa_cons pe_int (pa_cons pe_int (pa_cons pe_int pa_nil)))) (pa_cons pe_int pa_nil)))) (pa_cons (pe_call G_l_reply hr (by rfl) T.l_reply.g T.l_reply.F.kp T.l_reply.b .nil pass0 (pa_cons (pv 1) (pa_cons (pe_tupN (pa_cons pe_int (pa_cons pe_int pa_nil))) (pa_cons pe_int pa_nil)))) (pa_cons (pe_call G_l_reply hr (by rfl) T.l_reply.g T.l_reply.F.kp T.l_reply.b .nil pass0 (pa_cons (pv 1) (pa_cons (pe_tupN (pa_cons pe_int (pa_cons pe_int pa_nil))) (pa_cons pe_int pa_nil)))) pa_nil))))))
      (pss_cons (ps_set (i := 2) (sc_l_by_hand_right).nd rfl (by first | exact Or.inl rfl | exact Or.inr rfl) (pe_op op_cat (pv 2) (pe_lst (pa_cons (pe_call G_l_reply hr (by rfl) T.l_reply.g T.l_reply.F.kp T.l_reply.b .nil pass0 (pa_cons (pv 0) (pa_cons (pe_tupN (pa_cons pe_non (pa_cons pe_non (pa_cons pe_non pa_nil)))) (pa_cons pe_int pa_nil)))) (pa_cons (pe_call G_l_reply hr (by rfl) T.l_reply.g T.l_reply.F.kp T.l_reply.b .nil pass0 (pa_cons (pv 0) (pa_cons (pe_tupN (pa_cons pe_int (pa_cons pe_int (pa_cons pe_int pa_nil)))) (pa_cons pe_bl pa_nil)))) (pa_cons (pe_call G_l_reply hr (by rfl) T.l_reply.g T.l_reply.F.kp T.l_reply.b .nil pass0 (pa_cons (pv 0) (pa_cons (pe_tupN (pa_cons pe_int (pa_cons pe_int (pa_cons pe_int pa_nil)))) (pa_cons pe_int pa_nil)))) pa_nil))))))
      (pss_cons (ps_set (i := 3) (sc_l_by_hand_right).nd rfl (by first | exact Or.inl rfl | exact Or.inr rfl) (pe_op op_cat (pv 3) (pe_lst (pa_cons (pe_lst (pa_cons pe_str (pa_cons pe_int (pa_cons pe_bl pa_nil)))) (pa_cons (pe_lst (pa_cons pe_str (pa_cons pe_int (pa_cons pe_bl pa_nil)))) (pa_cons (pe_lst (pa_cons pe_str (pa_cons pe_bl pa_nil))) (pa_cons (pe_lst (pa_cons pe_str (pa_cons pe_bl pa_nil))) (pa_cons (pe_lst (pa_cons pe_str (pa_cons pe_bl pa_nil))) (pa_cons (pe_lst (pa_cons pe_str (pa_cons pe_bl pa_nil))) pa_nil)))))))))
      (pss_cons (ps_par (by rfl) (sc_l_by_hand_right).nd rfl rfl (by decide) rfl rfl (pa_cons (pe_tupN (pa_cons pe_int (pa_cons (pe_callTy call_tupleN (by rfl) T.A.n_tuple (by decide +kernel) (pa_cons (pe_op op_cat (pe_lst (pa_cons (pe_tupN (pa_cons pe_int (pa_cons pe_int pa_nil))) pa_nil)) (pe_lc (own := [("_law_k", 6)]) (by rfl) (sc_l_by_hand_right).nd (pi_range1 (by rfl) T.A.n_range (pa_cons pe_int pa_nil)) (blkOk_by (by kernel_rfl)) (fun _ _ _ _ _ => (pg_name (i := 6) (sc_l_by_hand_right).nd rfl (by first | exact Or.inl rfl | exact Or.inr rfl))) (fun _ _ _ _ _ => pts_nil) (fun _ _ _ _ _ => (pe_tupN (pa_cons (pv 6) (pa_cons (pe_op op_add (pv 6) pe_int) pa_nil)))))) pa_nil)) pa_nil))) (pa_cons (pe_op op_catN (pe_tupN (pa_cons pe_int pa_nil)) (pe_tupRgN rfl (by rfl) T.A.n_tuple (prg_2 (by rfl) T.A.n_range pe_int pe_int))) pa_nil)) (by rfl))
      (pss_cons (ps_set (i := 2) (sc_l_by_hand_right).nd rfl (by first | exact Or.inl rfl | exact Or.inr rfl) (pe_op op_cat (pv 2) (pe_lst (pa_cons (pe_call G_order_of hr (by rfl) T.order_of.g T.order_of.F.kp T.order_of.b .nil pass0 (pa_cons (pv 4) (pa_cons (pv 5) pa_nil))) (pa_cons (pe_call G_behind_whom hr (by rfl) T.behind_whom.g T.behind_whom.F.kp T.behind_whom.b .nil passL (pa_cons (pv 4) (pa_cons (pv 5) (pa_cons pe_int pa_nil)))) (pa_cons (pe_call G_is_order_of hr (by rfl) T.is_order_of.g T.is_order_of.F.kp T.is_order_of.b .nil pass0 (pa_cons (pv 4) (pa_cons (pv 5) (pa_cons (pe_tupN (pa_cons pe_int (pa_cons pe_int (pa_cons pe_int (pa_cons pe_int (pa_cons pe_int (pa_cons pe_int (pa_cons pe_int (pa_cons pe_int (pa_cons pe_int pa_nil)))))))))) pa_nil)))) pa_nil))))))
      (pss_one (ps_ret (pe_call G_l_same hr (by rfl) T.l_same.g T.l_same.F.kp T.l_same.b .nil pass0 (pa_cons (pv 2) (pa_cons (pe_op op_cat (pv 3) (pe_lst (pa_cons (pe_tupRgN rfl (by rfl) T.A.n_tuple (prg_1 (by rfl) T.A.n_range pe_int)) (pa_cons (pe_tupRgN rfl (by rfl) T.A.n_tuple (prg_1 (by rfl) T.A.n_range pe_int)) (pa_cons pe_bl pa_nil))))) pa_nil)))))))))))))
end
end Lw
set_option Elab.async false
set_option linter.all false
set_option maxRecDepth 100000
set_option maxHeartbeats 4000000
namespace Lw
open PySem PySem.Spec PyProof.Rows L2
/-! ### ahead, shown by a list -/
def clB (arr : Nat → Nat → Bool) (n k : Nat) (zs : List Nat) : Bool := (List.range n).all fun x => (!arr x k || zs.contains x) && zs.all fun y => !arr x y || zs.contains x
def upB (arr : Nat → Nat → Bool) (k : Nat) : List Nat → List Nat → Bool
  | [], _ => true
  | x :: xs, seen => (arr x k || seen.any fun y => arr x y) && upB arr k xs (x :: seen)
theorem up_anc {arr : Nat → Nat → Bool} {k : Nat} : ∀ (l seen : List Nat), (∀ y, y ∈ seen → Anc arr k y) → upB arr k l seen = true → ∀ x, x ∈ l → Anc arr k x
  | [], _, _, _, x, h => by simp at h
  | a :: l, seen, hs, h, x, hx => by
    have h : ((arr a k || seen.any fun y => arr a y) && upB arr k l (a :: seen)) = true := h
    rw [Bool.and_eq_true, Bool.or_eq_true, List.any_eq_true] at h
    have ha : Anc arr k a := by
      rcases h.1 with h1 | ⟨y, hy, h1⟩
      · exact .base h1
      · exact .step h1 (hs y hy)
    rcases List.mem_cons.mp hx with e | hx
    · exact e ▸ ha
    · exact up_anc l (a :: seen) (fun y hy => by
        rcases List.mem_cons.mp hy with e | hy
        · exact e ▸ ha
        · exact hs y hy) h.2 x hx
theorem anc_list {gs : List (Nat × Nat)} {ts : List (Option Nat)} {k : Nat} {zs : List Nat} (h1 : zs.Pairwise (· < ·)) (h2 : clB (arrB gs ts) ts.length k zs = true) (h3 : upB (arrB gs ts) k zs.reverse [] = true) : AncL gs ts k zs := by
  refine ⟨h1, fun x => ⟨fun hx => up_anc _ [] (fun y hy => by simp at hy) h3 x (List.mem_reverse.mpr hx), fun h => ?_⟩⟩
  unfold clB at h2
  rw [List.all_eq_true] at h2
  have key : ∀ x, x < ts.length → (arrB gs ts x k = true → x ∈ zs) ∧ ∀ y, y ∈ zs → arrB gs ts x y = true → x ∈ zs := fun x hx => by
    have := h2 x (List.mem_range.mpr hx)
    rw [Bool.and_eq_true, List.all_eq_true, Bool.or_eq_true] at this
    refine ⟨fun e => ?_, fun y hy e => ?_⟩
    · rcases this.1 with z | z
      · rw [e] at z; cases z
      · simpa using z
    · have := this.2 y hy
      rw [Bool.or_eq_true] at this
      rcases this with z | z
      · rw [e] at z; cases z
      · simpa using z
  induction h with
  | base h => exact (key _ (arr_lt h).1).1 h
  | step h r ih => exact (key _ (arr_lt h).1).2 _ ih h
theorem ancL_eq {gs : List (Nat × Nat)} {ts : List (Option Nat)} {k : Nat} {a b : List Nat} (h1 : AncL gs ts k a) (h2 : AncL gs ts k b) : a = b := sorted_eq h1.1 h2.1 fun x => (h1.2 x).trans (h2.2 x).symm
def tokB (gs : List (Nat × Nat)) (ts : List (Option Nat)) : Bool := decide (ts.length = gs.length) && (decide (gs.length ≤ 20) && (List.range ts.length).all fun k => match ts[k]? with
  | some (some p) => decide (p = (gAt gs k).1) || decide (p = (gAt gs k).2)
  | _ => true)
theorem tak_ok {gs : List (Nat × Nat)} {ts : List (Option Nat)} (h : tokB gs ts = true) : TakOk gs ts := by
  unfold tokB at h
  rw [Bool.and_eq_true, Bool.and_eq_true, List.all_eq_true] at h
  refine ⟨of_decide_eq_true h.1, fun k p hk => ?_, of_decide_eq_true h.2.1⟩
  have := h.2.2 k (List.mem_range.mpr (has_lt hk))
  unfold has at hk
  rw [hk] at this
  have this : (decide (p = (gAt gs k).1) || decide (p = (gAt gs k).2)) = true := this
  rw [Bool.or_eq_true] at this
  exact this.imp of_decide_eq_true of_decide_eq_true
def webB (m : Nat) (gs : List (Nat × Nat)) : Bool := decide (1 ≤ m) && (decide (m ≤ 1000) && (decide (gs.length ≤ 20) && gs.all fun g => decide (g.1 < m) && (decide (g.2 < m) && !decide (g.1 = g.2))))
theorem web_ok {m : Nat} {gs : List (Nat × Nat)} (h : webB m gs = true) : WebOk m gs := by
  unfold webB at h
  rw [Bool.and_eq_true, Bool.and_eq_true, Bool.and_eq_true, List.all_eq_true] at h
  refine ⟨of_decide_eq_true h.1, fun g hg => ?_, of_decide_eq_true h.2.2.1, of_decide_eq_true h.2.1⟩
  have := h.2.2.2 g hg
  rw [Bool.and_eq_true, Bool.and_eq_true] at this
  exact ⟨of_decide_eq_true this.1, of_decide_eq_true this.2.1, by simpa using this.2.2⟩
theorem held_ok {wd td : D} {m : Nat} {gs : List (Nat × Nat)} {ts : List (Option Nat)} (hw : isWeb wd m gs) (W : WebOk m gs) (h1 : dep 3 td = true) (h2 : tupN 3 td = takD ts) (h3 : TakOk gs ts) : (HeldI.mk wd td m gs ts).ok := ⟨⟨hw, W⟩, h1, h2, h3⟩
section
variable {P : Program} {w : World} {K : PySem.W.Frag} {mg : Str → Option Value} {base : Heap} {Cu Cc Cn fI cc cda : Addr} {ρ : Rho} {ta tb tc : TE}
theorem p_behind (i : BwI) (h : EvS (tCons ta (tCons tb (tCons tc tNil))) ρ [i.wd, i.td, i.g]) (hi : i.ok) (hk : kdB i = .fine) {E : XK} : EvP (tCall (sp_behind Cu Cc Cn) [] E (tCons ta (tCons tb (tCons tc tNil)))) ρ (bwR i) :=
  p_callX i h hi fun cls d H z => by
    have z : excR Cu Cc Cn (kdB i) cls d H := z
    rw [hk] at z
    exact z
theorem bwR_eq {i : BwI} {k : Nat} {zs : List Nat} {r : D} (hg : i.g = natD k) (hz : AncL i.gs i.ts k zs) (h : bwR i r) : r = natsT zs := by
  obtain ⟨_, k2, zs2, e, _, h2, h3⟩ := h
  have ek : k2 = k := by
    rw [hg] at e
    have := PyData.int.inj e
    omega
  subst ek
  rw [h3, ancL_eq h2 hz]
theorem e_behind (i : BwI) {k : Nat} {zs : List Nat} (h : EvS (tCons ta (tCons tb (tCons tc tNil))) ρ [i.wd, i.td, i.g]) (hi : i.ok) (hk : kdB i = .fine) (hg : i.g = natD k) (hz : AncL i.gs i.ts k zs) {E : XK} : EvE (tCall (sp_behind Cu Cc Cn) [] E (tCons ta (tCons tb (tCons tc tNil)))) ρ (natsT zs) :=
  ((p_behind i h hi hk).imp fun r hr => bwR_eq hg hz hr).e
theorem e_reply (i : BwI) {r : D} (h : EvS (tCons ta (tCons tb (tCons tc tNil))) ρ [i.wd, i.td, i.g]) (hi : i.ok) (hk : kdB i ≠ .fine) (hr : replyD (kdB i) = r) {E : XK} : EvE (tCall sp_reply [] E (tCons ta (tCons tb (tCons tc tNil)))) ρ r := e_call i h ⟨hi, hk⟩ fun r e => e.trans hr
theorem e_behindK (i : BwI) {k : Nat} {zs : List Nat} (h : EvS (tCons tc (tCons tb (tCons ta tNil))) ρ [i.g, i.td, i.wd]) (hi : i.ok) (hk : kdB i = .fine) (hg : i.g = natD k) (hz : AncL i.gs i.ts k zs) {E : XK} : EvE (tCallKw (sp_behind Cu Cc Cn) gKV E (tCons tc (tCons tb (tCons ta tNil)))) ρ (natsT zs) := fun σ H G kk Q q =>
  h σ H G kk _ fun vs H1 G1 x1 r1 => by
    obtain ⟨v1, vs1, rfl, a1, r2⟩ : ∃ v us, vs = v :: us ∧ Rp G1 v i.g ∧ RpL G1 us [i.td, i.wd] := by cases r1 with | cons a b => exact ⟨_, _, rfl, a, b⟩
    obtain ⟨v2, vs2, rfl, a2, r3⟩ : ∃ v us, vs1 = v :: us ∧ Rp G1 v i.td ∧ RpL G1 us [i.wd] := by cases r2 with | cons a b => exact ⟨_, _, rfl, a, b⟩
    obtain ⟨v3, rfl, a3⟩ : ∃ v, vs2 = [v] ∧ Rp G1 v i.wd := by
      cases r3 with
      | cons a b => cases b with | nil => exact ⟨_, rfl, a⟩
    refine ⟨G1, i, x1.s, .cons a3 (.cons a2 (.one a1)), hi, fun v r H2 G2 x2 r2 hr => ?_, fun cls d H2 G2 x2 hx => ?_⟩
    · have := bwR_eq hg hz hr
      exact q v H2 G2 (x1.trans x2) (this ▸ r2)
    · have hx : excR Cu Cc Cn (kdB i) cls d H2 := hx
      rw [hk] at hx
      exact hx.elim
/-! ### the two webs, the line -/
def sGs : List (Nat × Nat) := [(0, 1), (0, 1), (1, 2)]
def tGs : List (Nat × Nat) := [(0, 1), (1, 0)]
def lGs : List (Nat × Nat) := [(0, 1), (0, 1), (1, 2), (2, 3), (3, 4), (4, 5), (5, 6), (6, 7), (7, 8)]
def a1 : List (Option Nat) := [some 0, some 1, some 2]
def a2 : List (Option Nat) := [some 0, none, some 1]
def a3 : List (Option Nat) := [some 1, some 0]
def a4 : List (Option Nat) := [none, none, none]
def a5 : List (Option Nat) := [some 0, some 0, some 2]
def lTs : List (Option Nat) := [some 0, some 1, some 2, some 3, some 4, some 5, some 6, some 7, some 8]
theorem sW : WebOk 3 sGs := web_ok (by decide +kernel)
theorem tW : WebOk 2 tGs := web_ok (by decide +kernel)
theorem lW : WebOk 9 lGs := web_ok (by decide +kernel)
def w1 : Nat → List Nat
  | 0 => []
  | 1 => [0]
  | _ => [0, 1]
def w2 : Nat → List Nat
  | 1 => [0, 2]
  | _ => []
theorem hw1 (k : Nat) (h : k < 3) : AncL sGs a1 k (w1 k) := by
  match k, h with
  | 0, _ => exact anc_list (by decide) (by decide +kernel) (by decide +kernel)
  | 1, _ => exact anc_list (by decide) (by decide +kernel) (by decide +kernel)
  | 2, _ => exact anc_list (by decide) (by decide +kernel) (by decide +kernel)
theorem hw2 (k : Nat) (h : k < 3) : AncL sGs a2 k (w2 k) := by
  match k, h with
  | 0, _ => exact anc_list (by decide) (by decide +kernel) (by decide +kernel)
  | 1, _ => exact anc_list (by decide) (by decide +kernel) (by decide +kernel)
  | 2, _ => exact anc_list (by decide) (by decide +kernel) (by decide +kernel)
theorem hwl : AncL lGs lTs 8 (List.range 8) := anc_list (by decide) (by decide +kernel) (by decide +kernel)
def bI (wd : D) (m : Nat) (gs : List (Nat × Nat)) (ts : List (Option Nat)) (g : D) : BwI := ⟨wd, takD ts, g, m, gs, ts⟩
theorem bI_ok {wd g : D} {m : Nat} {gs : List (Nat × Nat)} {ts : List (Option Nat)} (hw : isWeb wd m gs) (W : WebOk m gs) (h1 : dep 3 (takD ts) = true) (h2 : tupN 3 (takD ts) = takD ts) (h3 : tokB gs ts = true) (hg : notP g = true) : (bI wd m gs ts g).ok := ⟨held_ok hw W h1 h2 (tak_ok h3), hg⟩
theorem kd_a1 (k : Nat) (h : k < 3) : kdB (bI (webD 3 sGs) 3 sGs a1 (natD k)) = .fine := by
  match k, h with
  | 0, _ => kernel_rfl
  | 1, _ => kernel_rfl
  | 2, _ => kernel_rfl
theorem kd_a2 (k : Nat) (h : k < 3) (wd : D) : kdB (bI wd 3 sGs a2 (natD k)) = .fine := by
  match k, h with
  | 0, _ => kernel_rfl
  | 1, _ => kernel_rfl
  | 2, _ => kernel_rfl
theorem kd_l : kdB (bI (webD 9 lGs) 9 lGs lTs (natD 8)) = .fine := by kernel_rfl
theorem kd_1 : kdB (bI (webD 3 sGs) 3 sGs a1 (.int 3)) = .noguest 3 := by kernel_rfl
theorem kd_2 : kdB (bI (webD 2 tGs) 2 tGs a3 (.int 2)) = .noguest 2 := by kernel_rfl
theorem kd_3 : kdB (bI (webD 2 tGs) 2 tGs a3 (.int 0)) = .cannot := by kernel_rfl
theorem kd_4 : kdB (bI (webD 3 sGs) 3 sGs a4 (.int 1)) = .cannot := by kernel_rfl
theorem kd_5 : kdB (bI (webD 3 sGs) 3 sGs a1 (.bool true)) = .unfit := by kernel_rfl
theorem kd_6 : kdB (bI (webD 3 sGs) 3 sGs a5 (.int 0)) = .unfit := by kernel_rfl
end
end Lw
set_option Elab.async false
set_option linter.all false
set_option maxRecDepth 100000
set_option maxHeartbeats 4000000
namespace Lw
open PySem PySem.Spec PyProof.Rows L2
def got1 : D := .list [.list [natsT [], natsT [0], natsT [0, 1]], .list [natsT [], natsT [0, 2], natsT []], natsT [0, 2]]
def rep1 : D := .list [.str "guest", .int 3, .bool true]
def rep2 : D := .list [.str "guest", .int 2, .bool true]
def rep3 : D := .list [.str "cannot", .bool true]
def rep4 : D := .list [.str "unfit", .bool true]
def got2 : D := .list [.list [natsT [], natsT [0], natsT [0, 1]], .list [natsT [], natsT [0, 2], natsT []], natsT [0, 2], rep1, rep2, rep3]
def got3 : D := .list [.list [natsT [], natsT [0], natsT [0, 1]], .list [natsT [], natsT [0, 2], natsT []], natsT [0, 2], rep1, rep2, rep3, rep3, rep4, rep4]
def got4 : D := .list [.list [natsT [], natsT [0], natsT [0, 1]], .list [natsT [], natsT [0, 2], natsT []], natsT [0, 2], rep1, rep2, rep3, rep3, rep4, rep4, natsT (List.range 9), natsT (List.range 8), .bool false]
section
variable {P : Program} {w : World} {K : PySem.W.Frag} {mg : Str → Option Value} {base : Heap} {Cu Cc Cn fI cc cda : Addr} {ρ : Rho} {ta tb tc te : TE} {x y : D}
theorem EvE.to (h : EvE te ρ x) (e : x = y) : EvE te ρ y := e ▸ h
theorem e_tk (ts : List (Option Nat)) {tt : TA} (h : EvS tt ρ (ts.map tD)) (hl : (ts.map tD).length ≤ 100000) : EvE (tTupN tt) ρ (takD ts) := e_tup h hl
theorem e_lcN {k7 : Nat} {te : TE} {wf : Nat → List Nat} (n : Nat) (hn : n ≤ 50000) (h : ∀ k, k < n → EvE te ((wipeR ρ [k7]).set k7 (some (.d (natD k)))) (natsT (wf k))) : EvE (tLc (iRng1 (tCons (tC (.int (n : Int))) tNil)) (gName k7) tYes te [k7]) ρ (.list ((List.range n).map fun k => natsT (wf k))) := by
  have := f_lc (ρ := ρ) (wi := iRng1 (tCons (tC (.int (n : Int))) tNil)) (g := gName k7) (vs := [k7]) (tt := tYes) (te := te) (List.range n) natD (fun _ => true) (fun k => natsT (wf k)) (i_rng1 (e_int (i := (n : Int))) (by omega)).i
    (fun k hk => bndc_name (by simp) ⟨t_yes, fun _ => h k (List.mem_range.mp hk)⟩) (by rw [List.length_range]; exact hn)
  rw [List.filter_eq_self.mpr fun _ _ => rfl] at this
  exact this.e
theorem run_by_hand (i : Unit) (h : True) : RunS (t_by_hand K (sp_behind Cu Cc Cn) sp_reply sp_is_order_of sp_order_of (sp_same 3) (sp_lists 3)) (startR 7 []) { nx := fun _ => PyData.none = .bool true, rt := fun _ r => r = .bool true } := by
  refine r_seq (r_tup2 (k_e (x := webD 3 sGs) (e_tup (s_cons e_int (e_tup (s_cons (e_tup (s_cons e_int e_int.one) (by decide)) (s_cons (e_tup (s_cons e_int e_int.one) (by decide)) (e_tup (s_cons e_int e_int.one) (by decide)).one)) (by decide)).one) (by decide))
    (k_e (x := webD 2 tGs) (e_tup (s_cons e_int (e_tup (s_cons (e_tup (s_cons e_int e_int.one) (by decide)) (e_tup (s_cons e_int e_int.one) (by decide)).one) (by decide)).one) (by decide)) (k_nil ⟨_, _, rfl, by decide, by decide, ?_⟩))))
  refine r_seq (r_asg (x := got1) ?_ ?_)
  · refine e_lst (s_cons (x := .list ((List.range 3).map fun k => natsT (w1 k))) (e_lcN 3 (by decide) fun k hk => ?_) (s_cons (x := .list ((List.range 3).map fun k => natsT (w2 k))) (e_lcN 3 (by decide) fun k hk => ?_) (EvE.one (x := natsT [0, 2]) ?_))) (by decide)
    · exact e_behind (bI (webD 3 sGs) 3 sGs a1 (natD k)) (s_cons (e_var rfl) (s_cons (e_tk a1 (s_cons e_int (s_cons e_int e_int.one)) (by decide)) (e_var (x := natD k) rfl).one)) (bI_ok (isWeb_self sW) sW (by decide +kernel) (by kernel_rfl) (by decide +kernel) rfl) (kd_a1 k hk) rfl (hw1 k hk)
    · exact e_behind (bI (webD 3 sGs) 3 sGs a2 (natD k)) (s_cons (e_var rfl) (s_cons (e_tk a2 (s_cons e_int (s_cons e_non e_int.one)) (by decide)) (e_var (x := natD k) rfl).one)) (bI_ok (isWeb_self sW) sW (by decide +kernel) (by kernel_rfl) (by decide +kernel) rfl) (kd_a2 k hk _) rfl (hw2 k hk)
    · refine e_behindK (k := 1) (⟨lstN 3 (webD 3 sGs), .list (a2.map tD), natD 1, 3, sGs, a2⟩ : BwI) (s_cons e_int (s_cons (e_lst (xs := a2.map tD) (s_cons e_int (s_cons e_non e_int.one)) (by decide)) (EvE.one (e_call (webD 3 sGs) (e_var rfl).one (isWeb_self sW).1 fun r e => e)))) ⟨held_ok (isWeb_list sW) sW (by decide +kernel) (by kernel_rfl) (tak_ok (by decide +kernel)), rfl⟩ (by kernel_rfl) rfl (hw2 1 (by decide))
  refine r_seq (r_asg (x := got1) ?_ ?_)
  · exact e_lst (s_cons (e_lst (s_cons (e_tup s_nil (by decide)) (s_cons (e_tup e_int.one (by decide)) (e_tup (s_cons e_int e_int.one) (by decide)).one)) (by decide)) (s_cons (e_lst (s_cons (e_tup s_nil (by decide)) (s_cons (e_tup (s_cons e_int e_int.one) (by decide)) (e_tup s_nil (by decide)).one)) (by decide)) (e_tup (s_cons e_int e_int.one) (by decide)).one)) (by decide)
  refine r_seq (r_asg (x := got2) ?_ ?_)
  · refine EvF.e (f_op (e_var rfl).b (e_lst (xs := [rep1, rep2, rep3]) (s_cons (e_reply (bI (webD 3 sGs) 3 sGs a1 (.int 3)) ?_ ?_ ?_ ?_) (s_cons (e_reply (bI (webD 2 tGs) 2 tGs a3 (.int 2)) ?_ ?_ ?_ ?_) (EvE.one (e_reply (bI (webD 2 tGs) 2 tGs a3 (.int 0)) ?_ ?_ ?_ ?_)))) (by decide)).b (o_cat (by decide)))
    · exact s_cons (e_var rfl) (s_cons (e_tk a1 (s_cons e_int (s_cons e_int e_int.one)) (by decide)) e_int.one)
    · exact bI_ok (isWeb_self sW) sW (by decide +kernel) (by kernel_rfl) (by decide +kernel) rfl
    · rw [kd_1]; exact fun z => by cases z
    · rw [kd_1]; rfl
    · exact s_cons (e_var rfl) (s_cons (e_tk a3 (s_cons e_int e_int.one) (by decide)) e_int.one)
    · exact bI_ok (isWeb_self tW) tW (by decide +kernel) (by kernel_rfl) (by decide +kernel) rfl
    · rw [kd_2]; exact fun z => by cases z
    · rw [kd_2]; rfl
    · exact s_cons (e_var rfl) (s_cons (e_tk a3 (s_cons e_int e_int.one) (by decide)) e_int.one)
    · exact bI_ok (isWeb_self tW) tW (by decide +kernel) (by kernel_rfl) (by decide +kernel) rfl
    · rw [kd_3]; exact fun z => by cases z
    · rw [kd_3]; rfl
  refine r_seq (r_asg (x := got3) ?_ ?_)
  · refine EvF.e (f_op (e_var rfl).b (e_lst (xs := [rep3, rep4, rep4]) (s_cons (e_reply (bI (webD 3 sGs) 3 sGs a4 (.int 1)) ?_ ?_ ?_ ?_) (s_cons (e_reply (bI (webD 3 sGs) 3 sGs a1 (.bool true)) ?_ ?_ ?_ ?_) (EvE.one (e_reply (bI (webD 3 sGs) 3 sGs a5 (.int 0)) ?_ ?_ ?_ ?_)))) (by decide)).b (o_cat (by decide)))
    · exact s_cons (e_var rfl) (s_cons (e_tk a4 (s_cons e_non (s_cons e_non e_non.one)) (by decide)) e_int.one)
    · exact bI_ok (isWeb_self sW) sW (by decide +kernel) (by kernel_rfl) (by decide +kernel) rfl
    · rw [kd_4]; exact fun z => by cases z
    · rw [kd_4]; rfl
    · exact s_cons (e_var rfl) (s_cons (e_tk a1 (s_cons e_int (s_cons e_int e_int.one)) (by decide)) e_bl.one)
    · exact bI_ok (isWeb_self sW) sW (by decide +kernel) (by kernel_rfl) (by decide +kernel) rfl
    · rw [kd_5]; exact fun z => by cases z
    · rw [kd_5]; rfl
    · exact s_cons (e_var rfl) (s_cons (e_tk a5 (s_cons e_int (s_cons e_int e_int.one)) (by decide)) e_int.one)
    · exact bI_ok (isWeb_self sW) sW (by decide +kernel) (by kernel_rfl) (by decide +kernel) rfl
    · rw [kd_6]; exact fun z => by cases z
    · rw [kd_6]; rfl
  refine r_seq (r_asg (x := got3) ?_ ?_)
  · exact EvF.e (f_op (e_var rfl).b (e_lst (xs := [rep1, rep2, rep3, rep3, rep4, rep4]) (s_cons (e_lst (s_cons e_str (s_cons e_int e_bl.one)) (by decide)) (s_cons (e_lst (s_cons e_str (s_cons e_int e_bl.one)) (by decide)) (s_cons (e_lst (s_cons e_str e_bl.one) (by decide)) (s_cons (e_lst (s_cons e_str e_bl.one) (by decide)) (s_cons (e_lst (s_cons e_str e_bl.one) (by decide)) (EvE.one (e_lst (s_cons e_str e_bl.one) (by decide)))))))) (by decide)).b (o_cat (by decide)))
  refine r_seq (r_par (k_e (x := webD 9 lGs) ?_ (k_e (x := takD lTs) ?_ (k_nil ⟨_, _, rfl, by decide, by decide, ?_⟩))))
  · refine (e_tup (s_cons e_int (EvE.one (e_cb (EvB.one (EvF.e (f_op (e_lst (EvE.one (e_tup (s_cons e_int e_int.one) (by decide))) (by decide)).b (EvE.b (EvF.e (f_lc (wi := iRng1 (tCons (tC (.int 8)) tNil)) (g := gName 6) (vs := [6]) (List.range 8) natD (fun _ => true) (fun k => gD (k, k + 1)) (i_rng1 (n := 8) (e_int (i := 8)) (by decide)).i (fun k hk => bndc_name (by simp) ⟨t_yes, fun _ => e_tup (s_cons (e_var (x := natD k) rfl) (EvE.one (e_op (e_var (x := natD k) rfl).b (e_int (i := 1)).b o_add))) (Nat.le_of_ble_eq_true rfl)⟩) (by decide)))) (o_cat (by decide)))).b) c_tupL))) (by decide)).to ?_
    kernel_rfl
  · exact (e_op (e_tup e_int.one (by decide)).b (e_tupRg2 (lo := 1) (n := 8) (e_int (i := 1)) (e_int (i := 9)) (by decide)).b (o_catT (by decide))).to (by kernel_rfl)
  refine r_seq (r_asg (x := got4) ?_ ?_)
  · refine EvF.e (f_op (e_var rfl).b (e_lst (xs := [natsT (List.range 9), natsT (List.range 8), .bool false]) (s_cons ?_ (s_cons ?_ (EvE.one ?_))) (by decide)).b (o_cat (by decide)))
    · exact e_call (⟨webD 9 lGs, takD lTs, 9, lGs, lTs⟩ : HeldI) (s_cons (e_var rfl) (e_var rfl).one) ⟨held_ok (isWeb_self lW) lW (by decide +kernel) (by kernel_rfl) (tak_ok (by decide +kernel)), by decide +kernel, by decide +kernel⟩ fun r e => e.trans (by kernel_rfl)
    · exact e_behind (bI (webD 9 lGs) 9 lGs lTs (natD 8)) (s_cons (e_var rfl) (s_cons (e_var rfl) e_int.one)) (bI_ok (isWeb_self lW) lW (by decide +kernel) (by kernel_rfl) (by decide +kernel) rfl) kd_l rfl hwl
    · exact e_call ((⟨webD 9 lGs, takD lTs, 9, lGs, lTs⟩ : HeldI), [0, 1, 2, 3, 4, 5, 6, 8, 7]) (s_cons (e_var rfl) (s_cons (e_var rfl) (EvE.one (e_tup (s_cons e_int (s_cons e_int (s_cons e_int (s_cons e_int (s_cons e_int (s_cons e_int (s_cons e_int (s_cons e_int e_int.one)))))))) (by decide)))))
        ⟨held_ok (isWeb_self lW) lW (by decide +kernel) (by kernel_rfl) (tak_ok (by decide +kernel)), by decide +kernel, by show List.Perm _ _; decide +kernel⟩ fun r e => e.trans (by kernel_rfl)
  exact r_ret (x := .bool true) (e_call got4 (s_cons (e_var rfl) (EvE.one (EvF.e (f_op (e_var rfl).b (e_lst (xs := [natsT (List.range 9), natsT (List.range 8), .bool false]) (s_cons (e_tupRg (e_int (i := 9)) (by decide)) (s_cons (e_tupRg (e_int (i := 8)) (by decide)) e_bl.one)) (by decide)).b (o_cat (by decide)))))) (by kernel_rfl) fun r e => e) rfl
def sp_by_hand : Sp := spI (fun _ : Unit => True) (fun _ => []) fun _ r => r = .bool true
theorem ok_by_hand (T : Tx K mg) (S : Exs P K mg Cu Cc Cn fI cc cda) : FnOk P w K mg base CX0 9 T.l_by_hand_right.f T.l_by_hand_right.fd P_l_by_hand_right sp_by_hand :=
  T.l_by_hand_right.F.ok (k := 8) sc_l_by_hand_right (len_I fun _ => rfl) fun cdv A outer s H vs Q E hr h => ⟨_, dv_by_hand T ((ok_behind T S).mono (by decide)) (ok_reply T S) ((ok_is_order_of T S).mono (by decide)) ((ok_order_of T S).mono (by decide)) ((ok_same T 3).mono (by decide)) ((ok_lists T 3).mono (by decide)) hr, fn_I (N := N_l_by_hand_right) run_by_hand vs H Q E h⟩
end
end Lw
set_option Elab.async false
set_option linter.all false
set_option maxRecDepth 100000
set_option maxHeartbeats 4000000
namespace Lw
open PySem PySem.Spec PyProof.Rows L2
section
variable {P : Program} {w : World} {K : PySem.W.Frag} {mg : Str → Option Value} {base : Heap} {Cu Cc Cn fI cc cda : Addr} {ρ : Rho} {ta tb tc te : TE} {ts : TA} {x y : D}
/-! ### a list some of whose parts are drawn -/
theorem KR.rpl {H H' G' : Hp} : ∀ {vs : List V} {ds : List D}, KR H H' G' vs (ds.map Sl.d) → RpL G' vs ds
  | _, [], h => by cases h; exact .nil
  | _, _ :: _, h => by
    cases h with
    | d a r => exact .cons a (KR.rpl r)
theorem z_lst {Pz : Rho → D → Prop} (h : EvK ts ρ fun ρ' ks => ∃ ds : List D, ks = ds.map Sl.d ∧ ds.length ≤ 100000 ∧ Pz ρ' (.list ds)) : EvZ (tLst ts) ρ Pz := fun σ H G k Q q =>
  h σ H G k _ fun vs ks ρ1 H1 G1 t1 k1 kr ⟨ds, e, hl, p⟩ => by
    subst e
    have r := kr.rpl
    refine ⟨by rw [r.len]; exact Nat.le_trans hl (by decide), fun a ha => ?_⟩
    have x2 := Px.new2 (o := .lst vs) k1.sub ha
    exact q (.ref a) (.list ds) ρ1 _ _ (t1.trans (Te.of x2)) (k1.px x2) (.lst upd_same (r.mono (same_new (k1.sub.free ha)))) p
/-- a new object from a call whose first part is told by a property -/
theorem f_callP {ι : Type} {pre : ι → Prop} {args : ι → List D} {own : ι → Own} {E : XK} {P1 : D → Prop} {w : Own} (h : EvP ta ρ P1) (hb : EvE tb ρ y) (hi : ∀ x, P1 x → ∃ i, args i = [x, y] ∧ pre i ∧ own i = w) : EvF (tCall (spO pre args own) [] E (tCons ta (tCons tb tNil))) ρ w := fun σ H G k Q q =>
  h σ H G k _ fun v x H1 G1 x1 r1 p => hb σ H1 G1 (k.px x1) _ fun v2 H2 G2 x2 r2 => by
    obtain ⟨i, e1, e2, e3⟩ := hi x p
    exact ⟨G2, i, (x1.trans x2).s, by rw [e1]; exact .cons (r1.mono x2.g) (.one r2), e2, fun a o H3 G3 x3 n3 h3 g3 w3 => q a o H3 G3 ((x1.trans x2).trans x3) ((x1.trans x2).h.free n3) h3 g3 (e3 ▸ w3)⟩
/-! ### takings compared -/
theorem tak_plain : ∀ l : List (Option Nat), plains (l.map tD) = true
  | [] => rfl
  | o :: l => by
    show plains (tD o :: l.map tD) = true
    rw [plains, tak_plain l]
    cases o <;> rfl
theorem tak_lay : ∀ l : List (Option Nat), PyData.canLayAll0 (l.map tD) = true
  | [] => rfl
  | o :: l => by
    show PyData.canLayAll0 (tD o :: l.map tD) = true
    rw [PyData.canLayAll0, tak_lay l]
    cases o <;> rfl
theorem tak_depth : ∀ l : List (Option Nat), PyData.depthAll (l.map tD) = 0
  | [] => rfl
  | o :: l => by
    show PyData.depthAll (tD o :: l.map tD) = 0
    rw [PyData.depthAll, tak_depth l]
    cases o <;> rfl
theorem okD_tak (l : List (Option Nat)) : okD (takD l) = true := (okD_list (tak_plain l) (tak_lay l) (tak_depth l)).2
theorem eqv_tt (a b : Option Nat) : PyData.eqv (tD a) (tD b) = decide (a = b) := by
  cases a with
  | none =>
    cases b with
    | none => rfl
    | some b => rw [decide_eq_false (by simp)]; rfl
  | some a =>
    cases b with
    | none => rw [decide_eq_false (by simp)]; rfl
    | some b =>
      show PyData.eqv (natD a) (natD b) = _
      rw [eqv_nat]
      by_cases e : a = b
      · simp [e]
      · simp [e]
theorem eqvAll_tak : ∀ a b : List (Option Nat), PyData.eqvAll (a.map tD) (b.map tD) = decide (a = b)
  | [], [] => rfl
  | [], _ :: _ => by
    rw [decide_eq_false (by simp)]
    rfl
  | _ :: _, [] => by
    rw [decide_eq_false (by simp)]
    rfl
  | x :: a, y :: b => by
    show PyData.eqvAll (tD x :: a.map tD) (tD y :: b.map tD) = _
    rw [PyData.eqvAll, eqv_tt, eqvAll_tak a b]
    by_cases h1 : x = y
    · by_cases h2 : a = b
      · simp [h1, h2]
      · simp [h1, h2]
    · simp [h1]
theorem eqv_tak (a b : List (Option Nat)) : PyData.eqv (takD a) (takD b) = decide (a = b) := by
  unfold takD
  rw [PyData.eqv, eqvAll_tak]
theorem o_eqTk {a b : List (Option Nat)} : OpD (rEqD K) (takD a) (takD b) (.bool (decide (a = b))) := by
  have := o_eq (K := K) (okD_tak a) (okD_tak b)
  rw [eqv_tak] at this
  exact this
theorem o_neTk {a b : List (Option Nat)} : OpD (rNeD K) (takD a) (takD b) (.bool (!decide (a = b))) := by
  have := o_ne (K := K) (okD_tak a) (okD_tak b)
  rw [eqv_tak] at this
  exact this
/-! ### a taking in its forms -/
theorem tD_fix (n : Nat) (o : Option Nat) : lstN n (tD o) = tD o ∧ tupN n (tD o) = tD o ∧ dep n (tD o) = true := by
  cases n <;> cases o <;> exact ⟨rfl, rfl, rfl⟩
theorem map_fix {f : D → D} (h : ∀ o, f (tD o) = tD o) (l : List (Option Nat)) : (l.map tD).map f = l.map tD := by
  rw [List.map_map]
  exact List.map_congr_left fun o _ => h o
theorem tak_dep {l : List (Option Nat)} (n : Nat) (hl : l.length ≤ 1000) : dep (n + 1) (takD l) = true ∧ dep (n + 1) (.list (l.map tD)) = true := by
  have : (decide ((l.map tD).length ≤ 1000) && (l.map tD).all (dep n)) = true := by
    rw [Bool.and_eq_true, List.all_eq_true, List.length_map]
    refine ⟨decide_eq_true hl, fun x hx => ?_⟩
    obtain ⟨o, _, rfl⟩ := List.mem_map.mp hx
    exact (tD_fix n o).2.2
  exact ⟨this, this⟩
theorem tak_tup (l : List (Option Nat)) (n : Nat) : tupN (n + 1) (takD l) = takD l ∧ tupN (n + 1) (.list (l.map tD)) = takD l := by
  have : (l.map tD).map (tupN n) = l.map tD := map_fix (fun o => (tD_fix n o).2.1) l
  refine ⟨?_, ?_⟩
  · show PyData.tuple ((l.map tD).map (tupN n)) = takD l
    rw [this]
    rfl
  · show PyData.tuple ((l.map tD).map (tupN n)) = takD l
    rw [this]
    rfl
theorem tak_lst (l : List (Option Nat)) (n : Nat) : lstN (n + 1) (takD l) = .list (l.map tD) := by
  show PyData.list ((l.map tD).map (lstN n)) = _
  rw [map_fix (fun o => (tD_fix n o).1) l]
theorem held_nd {gs : List (Nat × Nat)} {ts : List (Option Nat)} (V : Valid gs ts) : (held ts).Nodup := by
  have key : ∀ ts : List (Option Nat), (∀ i j p, has ts i p → has ts j p → i = j) → (held ts).Nodup := by
    intro ts
    induction ts with
    | nil => intro _; exact List.nodup_nil
    | cons o ts ih =>
      intro hi
      have ih := ih fun i j p h1 h2 => Nat.succ.inj (hi (i + 1) (j + 1) p (by simpa [has] using h1) (by simpa [has] using h2))
      cases o with
      | none => exact ih
      | some q =>
        show (q :: held ts).Nodup
        refine List.nodup_cons.mpr ⟨fun hm => ?_, ih⟩
        obtain ⟨o, ho, e⟩ := List.mem_filterMap.mp hm
        have e : o = some q := e
        subst e
        obtain ⟨i, hi2, e2⟩ := List.getElem_of_mem ho
        have := hi 0 (i + 1) q (by simp [has]) (by unfold has; rw [List.getElem?_cons_succ, List.getElem?_eq_getElem hi2, e2])
        omega
  exact key ts V.inj
theorem tak_of_valid {gs : List (Nat × Nat)} {ts : List (Option Nat)} (V : Valid gs ts) (hf : gs.length ≤ 20) : TakOk gs ts := ⟨V.len, V.at_, hf⟩
end
end Lw
set_option Elab.async false
set_option linter.all false
set_option maxRecDepth 100000
set_option maxHeartbeats 4000000
namespace Lw
open PySem PySem.Spec PyProof.Rows L2
/-! ### the script itself: a list known to the object, or one of the module's own; it is read in slices alone -/
section
variable {P : Program} {w : World} {K : PySem.W.Frag} {mg : Str → Option Value} {base : Heap} {ρ : Rho} {te : TE} {σ σ0 : L2.St} {H H0 G H' G' : Hp}
theorem sqL_same {a : Addr} {xs : List V} (s : Same H H') (h : SqL K H a xs) : SqL K H' a xs := h.imp (fun r => r.imp (s _ _) fun ⟨o, e⟩ => ⟨o, s _ _ e⟩) id
theorem rpl_int : ∀ l : List Int, RpL G (l.map V.int) (l.map PyData.int)
  | [] => .nil
  | i :: l => .cons (.int i) (rpl_int l)
theorem tr_px {σ' : L2.St} {ρ' : Rho} (hn : ∀ a, ¬ mutAt σ ρ a) (t : Tr σ ρ H G σ' ρ' H' G') (s : Same G' H') : Px H G H' G' :=
  ⟨fun a o e => t.keep a o e (hn a), t.up, s, fun a e q => (t.new a e q).elim .inl fun m => m.elim (fun m => absurd m (hn a)) .inr⟩
/-- read here alone -/
def atE (σ0 : L2.St) (H0 : Hp) (te : TE) : TE := fun σ H Q => σ = σ0 ∧ H = H0 → te σ H Q
theorem f_slAt {tlo thi : TO} {lo hi : Option Int} {a : Addr} {l : List Int} (hv : σ0[0]? = some (some (.ref a))) (hS : SqL K H0 a (l.map V.int)) (h1 : EvO tlo ρ lo) (h2 : EvO thi ρ hi) : EvF (atE σ0 H0 (tSl (rSlL K) (tVar 0) tlo thi)) ρ (mlist (cutD (l.map .int) lo hi)) := fun σ H G k Q q => fun ⟨e1, e2⟩ => by
  subst e1
  subst e2
  exact ⟨_, hv, h1 σ H G k _ fun H2 G2 x2 => h2 σ H2 G2 (k.px x2) _ fun H3 G3 x3 => by
    have x := x2.trans x3
    exact ⟨a, _, rfl, sqL_same x.h hS, fun p hp => q p _ _ G3 (x.trans (Px.new x.s hp)) (x.h.free hp) upd_same (x.s.free hp) ⟨_, rfl, (rpl_int l).cut lo hi⟩⟩⟩
/-- a new object into a slot: what stands behind it -/
theorem asg_at {i : Nat} {a : Addr} {o : HO} {w : Own} {σ : L2.St} {H1 G1 : Hp} (k : Ok σ H G ρ) (hi : i < ρ.length) (x1 : Px H G H1 G1) (n1 : H a = Option.none) (h1 : H1 a = some o) (g1 : G1 a = Option.none) (w1 : w.P G1 a o) :
    Ok (σ.set i (some (.ref a))) H1 G1 (ρ.set i (some (.o w))) ∧ Tr σ ρ H G (σ.set i (some (.ref a))) (ρ.set i (some (.o w))) H1 G1 :=
  set_any (i := i) (k.px x1) hi (Te.of x1).tr (.o (vs := []) (ks := []) n1 h1 g1 w1 (by simp) .nil) (fun j w' b e1 e2 e3 => by
      have := V.ref.inj e3
      subst this
      exact .inl (k.ne0 (fun a e => e) (H1 := H) (fun i w e => ⟨w, e⟩) e1 e2))
/-! ### _law_cells, of the script -/
def sp_cellsK (K : PySem.W.Frag) : Sp := fun vs H Q _ => ∃ (G : Hp) (a : Addr) (l : List Int), Same G H ∧ vs = [.ref a, .int 1] ∧ SqL K H a (l.map V.int) ∧ l.length ≤ 63 ∧ ∀ v r H' G', Px H G H' G' → Rp G' v r → (∃ c : Int, r = .list [.int c]) → Q v H'
abbrev rc0 : Rho := [none, some (.d (natD 1)), none, none, none, none]
theorem rc0_no {σ : L2.St} {a : Addr} : ¬ mutAt σ rc0 a := fun ⟨i, w, h, _⟩ => by
  match i, h with
  | 0, h => cases h
  | 1, h => cases h
  | 2, h => cases h
  | 3, h => cases h
  | 4, h => cases h
  | 5, h => cases h
  | i + 6, h => cases h
theorem run_cellsK {a : Addr} {l : List Int} (h : l.length ≤ 63) (k : Ok σ H G rc0) (hv : σ[0]? = some (some (.ref a))) (hS : SqL K H a (l.map V.int)) (D : Ends) (q : ∀ v r H' G', Px H G H' G' → Rp G' v r → (∃ c : Int, r = .list [.int c]) → D.rt v H') : t_l_cells K D σ H := by
  obtain ⟨l1, e1, h1⟩ := cut_map1 PyData.int l h
  have hs := f_slAt (K := K) (ρ := rc0) hv hS eo_none (eo_int (i := ((1 : Nat) : Int)) (e_var (i := 1) rfl))
  rw [e1] at hs
  have ho := f_orT (K := K) (f_cb hs.b.one (c_list (K := K) (.inl rfl))) (fun _ => f_lst (e_int (i := 0)).one (by decide))
  have hc : ∃ c : Int, (if l1.map PyData.int = [] then [PyData.int 0] else l1.map PyData.int) = [.int c] := by
    rcases l1 with _ | ⟨a, _ | ⟨b, r⟩⟩
    · exact ⟨0, rfl⟩
    · exact ⟨a, rfl⟩
    · simp at h1
  obtain ⟨c0, ec⟩ := hc
  rw [ec] at ho
  refine ho σ H G k _ (fun p o H1 G1 x1 n1 o1 g1 w1 => ?_) ⟨rfl, rfl⟩
  obtain ⟨k1, t1⟩ := asg_at (i := 2) k (Nat.le_of_ble_eq_true rfl) x1 n1 o1 g1 w1
  have hv1 : (σ.set 2 (some (.ref p)))[0]? = some (some (.ref a)) := by rw [List.getElem?_set_ne (by decide), hv]
  have hS1 := sqL_same x1.h hS
  obtain ⟨l2, e2, h2⟩ := cut_map PyData.int l (some ((1 : Nat) : Int)) (some 63)
  have hsl : EvE (atE (σ.set 2 (some (.ref p))) H1 (tSl (rSlL K) (tVar 0) (tPart (tVar 1)) (tPart (tC (.int 63))))) (rc0.set 2 (some (.o (mlist [.int c0])))) (.list (l2.map .int)) := by
    rw [← e2]
    exact (f_slAt (K := K) hv1 hS1 (eo_int (e_var (x := natD 1) rfl)) (eo_int e_int)).e
  have hen := i_enum (K := K) hsl
  rw [enumD_map] at hen
  have hrun : RunS (tSeq (tFor (iEnum K (tCons (atE (σ.set 2 (some (.ref p))) H1 (tSl (rSlL K) (tVar 0) (tPart (tVar 1)) (tPart (tC (.int 63))))) tNil)) (gTup K 2 (gCons (gName 3) (gCons (gName 4) gNil))) (tSeq (tAsg (tOp rModI (tCB rInt (tCons (tVar 3) tNil)) (tVar 1)) (gName 5))
      (tAsg (tOp rAddI (tOp (rIx K) (tVar 2) (tVar 5)) (tOp rMulI (tVar 4) (tOp rAddI (tVar 3) (tC (.int 2))))) (gSub (tVar 2) (tVar 5) rSetL)))) (tRet (tVar 2))) (rc0.set 2 (some (.o (mlist [.int c0])))) { nx := fun _ => False, rt := fun _ r => ∃ c : Int, r = .list [.int c] } := by
    refine r_seq (r_for l2.zipIdx (fun p => prD (natD p.2) (.int p.1)) (fun _ ρ' => ∃ (c : Int) (a b d : Option Sl), ρ' = [none, some (.d (natD 1)), some (.o (mlist [.int c])), a, b, d]) hen ⟨c0, none, none, none, rfl⟩ ?_ ?_)
    · rintro i ⟨bit, k⟩ ρ1 hik ⟨c, a, b, d, rfl⟩
      have hk63 : k < 64 := by
        rw [List.getElem?_zipIdx] at hik
        cases hq : l2[i]? with
        | none => rw [hq] at hik; cases hik
        | some q =>
          rw [hq] at hik
          have e := congrArg Prod.snd (Option.some.inj hik)
          have hlt := (List.getElem?_eq_some_iff.mp hq).1
          have e : 0 + i = k := e
          omega
      refine bnd_pair ?_
      refine r_seq (r_asg (x := .int (((k : Nat) : Int) % ((1 : Nat) : Int))) (e_op (e_intc (e_var (x := natD k) rfl)).b (e_var (x := natD 1) rfl).b (o_mod (by decide))) ?_)
      have e0 : ((k : Nat) : Int) % ((1 : Nat) : Int) = ((0 : Nat) : Int) := by omega
      rw [e0]
      refine r_setL (n := 0) (x := .int (c + bit * ((k : Int) + 2))) rfl (e_op (e_op (b_var (xs := [.int c]) rfl) (e_var (x := .int ((0 : Nat) : Int)) rfl).b (o_ixL (i := 0) (z := .int c) rfl)).b (e_op (e_var (x := .int bit) rfl).b (e_op (e_var (x := natD k) rfl).b (e_int (i := 2)).b o_add).b (o_mul (.inr ?_))).b o_add) (e_var rfl) (Nat.le_of_ble_eq_true rfl) ⟨_, _, _, _, rfl⟩
      exact ⟨by omega, by omega⟩
    · rintro ρ1 ⟨c, a, b, d, rfl⟩
      exact r_retO (ds := [.int c]) rfl ⟨c, rfl⟩
  exact hrun (σ.set 2 (some (.ref p))) H1 G1 k1 D (fun _ _ _ _ _ _ z => z.elim) (fun v d σ2 ρ2 H2 G2 t2 k2 r2 hd => q v d H2 G2 (tr_px (fun _ => rc0_no) (t1.trans t2) k2.sub) r2 hd) (fun _ _ _ _ _ _ z => z.elim) (fun _ _ _ _ _ _ z => z.elim) ⟨rfl, rfl⟩
theorem ok_cellsK (T : Tx K mg) : FnOk P w K mg base CX0 1 T.l_cells.f T.l_cells.fd P_l_cells (sp_cellsK K) :=
  T.l_cells.F.ok (k := 0) sc_l_cells (fun vs H Q E ⟨G, a, l, _, e, _⟩ => by rw [e]; rfl) fun cdv A outer s H vs Q E hr h => ⟨_, dv_l_cells T hr, by
    obtain ⟨G, a, l, s1, e, hS, hl, q⟩ := h
    subst e
    have k : Ok (start N_l_cells [.ref a, .int 1]) H G rc0 := by
      refine ⟨s1, rfl, fun i sl hi => ?_, fun i j w1 w2 b e1 _ _ _ => ?_⟩
      · match i, hi with
        | 0, hi => cases hi
        | 1, hi => cases hi; exact ⟨_, rfl, .int ((1 : Nat) : Int)⟩
        | 2, hi => cases hi
        | 3, hi => cases hi
        | 4, hi => cases hi
        | 5, hi => cases hi
        | i + 6, hi => cases hi
      · match i, e1 with
        | 0, hi => cases hi
        | 1, hi => cases hi
        | 2, hi => cases hi
        | 3, hi => cases hi
        | 4, hi => cases hi
        | 5, hi => cases hi
        | i + 6, hi => cases hi
    exact run_cellsK hl k rfl hS { nx := fun _ H' => Q .non H', rt := Q } q⟩
end
end Lw
set_option Elab.async false
set_option linter.all false
set_option maxRecDepth 100000
set_option maxHeartbeats 4000000
namespace Lw
open PySem PySem.Spec PyProof.Rows L2
/-! ### a lap, in plain words -/
theorem cut_drop {xs : List D} : cutD xs (some 1) none = xs.drop 1 := by
  cases xs with
  | nil => rfl
  | cons x xs =>
    have : HT.sIx (x :: xs).length 0 (some 1) = 1 := by
      rw [show (1 : Int) = ((1 : Nat) : Int) from rfl, HT.sIx_nat, List.length_cons]
      omega
    unfold cutD
    rw [this, HT.sIx_none, List.take_of_length_le (by rw [List.length_drop]; omega)]
theorem cut_take {xs : List D} : cutD xs none (some 1) = xs.take 1 := by
  cases xs with
  | nil => rfl
  | cons x xs =>
    have : HT.sIx (x :: xs).length (x :: xs).length (some 1) = 1 := by
      rw [show (1 : Int) = ((1 : Nat) : Int) from rfl, HT.sIx_nat, List.length_cons]
      omega
    unfold cutD
    rw [this, HT.sIx_none]
    rfl
theorem Ord.rev {n : Nat} {o : List Nat} (h : Ord n o) : Ord n o.reverse := (List.reverse_perm o).trans h
theorem Ord.rot {n : Nat} {o : List Nat} (h : Ord n o) : Ord n (o.drop 1 ++ o.take 1) := by
  have : (o.drop 1 ++ o.take 1).Perm (o.take 1 ++ o.drop 1) := List.perm_append_comm
  rw [List.take_append_drop] at this
  exact this.trans h
theorem rot_D (o : List Nat) : PyData.tuple (cutD (natsD o) (some 1) none ++ cutD (natsD o) none (some 1)) = natsT (o.drop 1 ++ o.take 1) := by
  rw [cut_drop, cut_take]
  unfold natsT natsD
  rw [List.map_append, List.map_drop, List.map_take]
theorem rev_D (o : List Nat) : PyData.tuple (natsD o).reverse = natsT o.reverse := by
  unfold natsT natsD
  rw [List.map_reverse]
structure LapF (gs : List (Nat × Nat)) (o : List Nat) : Prop where
  V : TakV gs (runF gs o)
  len : (runF gs o).length = gs.length
  lack : lackF gs (runF gs o) = []
  al : Along gs (runF gs o) o
  ex : ∃ o', ordF gs (runF gs o) = some o' ∧ Ord gs.length o' ∧ Along gs (runF gs o) o'
theorem lap_of {gs : List (Nat × Nat)} {o : List Nat} (ho : Ord gs.length o) (hf : gs.length ≤ 20) : LapF gs o := by
  have hl := runF_len ho
  have F := runF_fits ho
  have V := F.valid ho hl
  have A := F.along ho hl
  refine ⟨⟨V, hf⟩, hl, lack_nil.mpr (F.sound ho hl), A, ?_⟩
  have := orderIn_ok (arr := arrB gs (runF gs o)) ho A (fun f l h => by have := arr_lt h; omega) (runF gs o).length (List.range (runF gs o).length) [] (by rw [List.length_range]; exact Nat.le_refl _) (by rw [hl]; exact Peel.start _ _)
  exact this
theorem LapF.out {gs : List (Nat × Nat)} {o : List Nat} (L : LapF gs o) : outB gs (runF gs o) = true := by
  obtain ⟨o', e, _⟩ := L.ex
  unfold outB
  rw [decide_eq_true L.lack, e]
  rfl
theorem LapF.alo {gs : List (Nat × Nat)} {o u : List Nat} (L : LapF gs o) (ho : Ord gs.length o) (hu : Ord gs.length u) (m : Nat) : aloB ⟨m, gs, runF gs o, u⟩ = decide (runF gs u = runF gs o) := by
  unfold aloB
  show (decide (lackF gs (runF gs o) = []) && alongB gs (runF gs o) u) = _
  rw [decide_eq_true L.lack, Bool.true_and, Bool.eq_iff_iff, alongB_iff, decide_eq_true_iff, has_it ho hu]
  have lt : ∀ f l, arrB gs (runF gs o) f l = true → f ∈ u ∧ l ∈ u := fun f l h => by
    have := arr_lt h
    rw [L.len] at this
    exact ⟨hu.mem.mpr this.1, hu.mem.mpr this.2⟩
  exact ⟨fun h f l a => (bef_idx hu.nodup (lt f l a).1 (lt f l a).2).mpr (h f l a), fun h f l a => (bef_idx hu.nodup (lt f l a).1 (lt f l a).2).mp (h f l a)⟩
theorem Anc.lt {gs : List (Nat × Nat)} {ts : List (Option Nat)} {k x : Nat} (h : Anc (arrB gs ts) k x) : x < ts.length := by
  cases h with
  | base h => exact (arr_lt h).1
  | step h _ => exact (arr_lt h).1
theorem AncL.len {gs : List (Nat × Nat)} {ts : List (Option Nat)} {k : Nat} {zs : List Nat} (h : AncL gs ts k zs) : zs.length ≤ ts.length :=
  nodup_le (h.1.imp fun a => Nat.ne_of_lt a) fun x hx => ((h.2 x).mp hx).lt
theorem LapF.later {gs : List (Nat × Nat)} {o : List Nat} (L : LapF gs o) (ho : Ord gs.length o) {k : Nat} {zs : List Nat} (h : AncL gs (runF gs o) k zs) : zs.filter (fun z => decide (o.idxOf k < o.idxOf z)) = [] := by
  rw [List.filter_eq_nil_iff]
  intro z hz
  have lt : ∀ f l, arrB gs (runF gs o) f l = true → f ∈ o ∧ l ∈ o := fun f l a => by
    have := arr_lt a
    rw [L.len] at this
    exact ⟨ho.mem.mpr this.1, ho.mem.mpr this.2⟩
  have := Anc.before ho.nodup lt L.al ((h.2 z).mp hz)
  simp
  omega
/-! ### law -/
section
variable {P : Program} {w : World} {K : PySem.W.Frag} {mg : Str → Option Value} {base : Heap} {Cu Cc Cn fI cc cda : Addr} {ρ : Rho} {ta tb tc te : TE} {x y : D}
theorem e_same1 (h1 : EvE ta ρ x) (h2 : EvE tb ρ x) (hd : dep 1 x = true) {E : XK} : EvE (tCall (sp_same 1) [] E (tCons ta (tCons tb tNil))) ρ (.bool true) := e_call x (s_cons h1 h2.one) hd fun r e => e
theorem len10 {r : Rho} (h : r.length = 10) : ∃ a b c d e f g i j k, r = [a, b, c, d, e, f, g, i, j, k] := by
  match r, h with
  | [a, b, c, d, e, f, g, i, j, k], _ => exact ⟨a, b, c, d, e, f, g, i, j, k, rfl⟩
theorem dep_nats (l : List Nat) (h : l.length ≤ 1000) : dep 1 (natsT l) = true := by
  show (decide ((natsD l).length ≤ 1000) && (natsD l).all (dep 0)) = true
  rw [Bool.and_eq_true, List.all_eq_true]
  refine ⟨decide_eq_true (by unfold natsD; rw [List.length_map]; exact h), fun x hx => ?_⟩
  obtain ⟨n, _, rfl⟩ := List.mem_map.mp hx
  rfl
theorem dep_bools {α : Type} (l : List α) (f : α → Bool) (h : l.length ≤ 1000) : dep 1 (.list (l.map fun u => PyData.bool (f u))) = true := by
  show (decide ((l.map fun u => PyData.bool (f u)).length ≤ 1000) && (l.map fun u => PyData.bool (f u)).all (dep 0)) = true
  rw [Bool.and_eq_true, List.all_eq_true, List.length_map]
  refine ⟨decide_eq_true h, fun x hx => ?_⟩
  obtain ⟨n, _, rfl⟩ := List.mem_map.mp hx
  rfl
theorem law_rest : ∃ u, t_law K sp_by_hand sp_box (sp_cellsK K) sp_busy sp_walk sp_run sp_order_of (sp_lists 3) (sp_same 1) sp_is_outcome sp_is_walk sp_lalong sp_is_order_of sp_take sp_ahead (sp_behind Cu Cc Cn) =
      tSeq (tIfS (tNot (tB (tCall sp_by_hand [] E0 tNil))) (tRet (tC (.bl false))) tNext) (tSeq (tAsg (tCall sp_box [] E0 (tCons (tCall (sp_cellsK K) [] E0 (tCons (tVar 0) (tCons (tC (.int 1)) tNil))) (tCons (tC (.int 0)) tNil))) (gName 1)) u) ∧
    RunS u [none, some (.o (tinU 1000000)), none, none, none, none, none, none, none, none, none, none, none, none] { nx := fun _ => False, rt := fun _ r => r = .bool true } := by
  refine ⟨_, rfl, ?_⟩
  refine r_tinU (i := 1) rfl fun a => ?_
  refine r_weak (i := 1) (c := 200 + 120) rfl (by decide) ?_
  refine r_seq (r_asgZ (z_busy (j := 1) (b := 200) rfl (e_int (i := 12)) (e_int (i := 12)) fun m gs W hf => ?_))
  refine r_seq (r_asg (x := natD gs.length) (e_lenG (m := m) (e_var rfl)) ?_)
  refine r_seq (r_for (List.range 2) natD (fun j ρ' => ∃ rest : Rho, ρ' = (none : Option Sl) :: some (.o (tin a (100 * (2 - j)))) :: some (.d (webD m gs)) :: some (.d (natD gs.length)) :: rest ∧ rest.length = 10) (i_rng1 (n := 2) (e_int (i := 2)) (by decide)) ⟨_, rfl, rfl⟩ ?_ ?_)
  · rintro j y ρ1 hj ⟨rest, rfl, hr⟩
    obtain ⟨s4, s5, s6, s7, s8, s9, s10, s11, s12, s13, rfl⟩ := len10 hr
    have hj2 : j < 2 := by
      have := (List.getElem?_eq_some_iff.mp hj).1
      rwa [List.length_range] at this
    refine bnd_name ?_
    have hb : ∃ B, 100 * (2 - (j + 1)) = B ∧ B + 100 = 100 * (2 - j) := ⟨_, rfl, by omega⟩
    obtain ⟨B, hB1, hB2⟩ := hb
    rw [hB1]
    refine r_weak (i := 1) (c := ((B + 1 + gs.length) + gs.length) + gs.length) rfl (by omega) ?_
    refine r_seq (r_asgZ (z_walk (j := 1) (b := (B + 1 + gs.length) + gs.length) (n := gs.length) rfl (e_var rfl) (by omega) fun o ho => ?_))
    have hf2 : gs.length ≤ 20 := by omega
    have L := lap_of ho hf2
    obtain ⟨o', eo, ho', ha'⟩ := L.ex
    have hl := L.len
    refine r_seq (r_asg (e_run (m := m) (gs := gs) (o := o) (e_var rfl) (e_var rfl) ho hf2) ?_)
    have hH : (HeldI.mk (lstN 3 (webD m gs)) (.list ((runF gs o).map tD)) m gs (runF gs o)).ok := held_ok (isWeb_list W) W (tak_dep 2 (by omega)).2 (tak_tup _ 2).2 (tak_of_valid L.V.V hf2)
    have hH2 : (HeldI.mk (webD m gs) (takD (runF gs o)) m gs (runF gs o)).ok := held_ok (isWeb_self W) W (tak_dep 2 (by omega)).1 (tak_tup _ 2).1 (tak_of_valid L.V.V hf2)
    have nd := held_nd L.V.V
    refine r_seq (r_asg (x := natsT o') (e_call (⟨lstN 3 (webD m gs), .list ((runF gs o).map tD), m, gs, runF gs o⟩ : HeldI) (s_cons (e_call (webD m gs) (e_var rfl).one (isWeb_self W).1 fun r e => e) (EvE.one (EvF.e (f_cb (e_var (x := takD (runF gs o)) rfl).b.one (c_list (.inr rfl)))))) ⟨hH, nd, L.out⟩ fun r e => e.trans (by show ordD (ordF gs (runF gs o)) = natsT o'; rw [eo]; rfl)) ?_)
    refine r_seq (r_if (b := false) (t_or (a := false) (b := false) (t_not (a := true) (t_B (e_same1 (x := .bool true) (e_call (⟨webD m gs, takD (runF gs o), m, gs, runF gs o⟩ : HeldI) (s_cons (e_var rfl) (e_var rfl).one) ⟨hH2, nd⟩ fun r e => e.trans (by show PyData.bool (outB gs (runF gs o)) = _; rw [L.out])) e_bl rfl))) fun _ =>
      t_or (a := false) (b := false) (t_not (a := true) (t_B (e_call (gs.length, o') (s_cons (e_var rfl) (e_var rfl).one) ⟨ho', hf2⟩ fun r e => e))) fun _ => (t_test (e_op (e_run (m := m) (gs := gs) (o := o') (e_var rfl) (e_var rfl) ho' hf2).b (e_var (x := takD (runF gs o)) rfl).b o_neTk)).is (by rw [decide_eq_true ((has_it ho ho').mpr ha')]; rfl)) (fun e => by cases e) fun _ => r_next ?_)
    refine r_seq (r_asgZ (z_callT (j := 1) (⟨m, gs, runF gs o⟩ : TakI) (B + 1 + gs.length) rfl (s_cons (e_var rfl) (e_var rfl).one) ⟨L.V, o, ho, L.al⟩ fun r hr => ?_))
    obtain ⟨o2, ho2, ha2, rfl⟩ := hr
    have ho2 : Ord gs.length o2 := ho2
    have ha2 : Along gs (runF gs o) o2 := ha2
    refine r_seq (r_asgZ (z_lst (k_e (e_var (x := natsT o) rfl) (k_e (e_var (x := natsT o2) rfl) (k_e ((e_revN (xs := natsD o) (e_var rfl)).to (rev_D o)) (k_z (z_walk (j := 1) (b := B + 1) (n := gs.length) rfl (e_var rfl) (by omega) fun o3 ho3 => k_e ((e_op (e_slN (xs := natsD o) (e_var rfl) (eo_int e_int) eo_none).b (e_slN (xs := natsD o) (e_var rfl) eo_none (eo_int e_int)).b (o_catT ?_)).to (rot_D o)) (k_nil ⟨([o, o2, o.reverse, o3, o.drop 1 ++ o.take 1] : List (List Nat)).map natsT, rfl, Nat.le_of_ble_eq_true rfl, ?_⟩))))))))
    · rw [cut_drop, cut_take, List.length_drop, List.length_take]
      have : (natsD o).length = gs.length := by unfold natsD; rw [List.length_map, ho.len]
      omega
    refine r_seq (r_if (b := false) ((t_test (e_op (e_run (m := m) (gs := gs) (o := o2) (e_var rfl) (e_var rfl) ho2 hf2).b (e_var (x := takD (runF gs o)) rfl).b o_neTk)).is (by rw [decide_eq_true ((has_it ho ho2).mpr ha2)]; rfl)) (fun e => by cases e) fun _ => r_next ?_)
    have hws : ∀ u, u ∈ ([o, o2, o.reverse, o3, o.drop 1 ++ o.take 1] : List (List Nat)) → Ord gs.length u := by
      intro u hu
      simp only [List.mem_cons, List.not_mem_nil, or_false] at hu
      rcases hu with rfl | rfl | rfl | rfl | rfl
      · exact ho
      · exact ho2
      · exact ho.rev
      · exact ho3
      · exact ho.rot
    generalize hwse : ([o, o2, o.reverse, o3, o.drop 1 ++ o.take 1] : List (List Nat)) = ws at hws ⊢
    have hwl : ws.length ≤ 5 := by rw [← hwse]; exact Nat.le_refl _
    refine r_seq (r_if (b := false) (t_not (a := true) (t_B (e_same1 (x := .list (ws.map fun u => PyData.bool (decide (runF gs u = runF gs o)))) ?_ ?_ (dep_bools ws _ (by omega))))) (fun e => by cases e) fun _ => r_next ?_)
    · have := f_lc (ρ := [(none : Option Sl), some (.o (tin a (B + 1))), some (.d (webD m gs)), some (.d (natD gs.length)), some (.d (natD y)), some (.d (natsT o)), some (.d (takD (runF gs o))), some (.d (natsT o')), some (.d (natsT o2)), some (.d (.list (ws.map natsT))), s10, s11, s12, s13]) (wi := iSeq K (tVar 9)) (g := gName 13) (vs := [13]) (tt := tYes) (te := tCall sp_is_order_of [] E0 (tCons (tVar 2) (tCons (tVar 6) (tCons (tVar 13) tNil))))
        ws natsT (fun _ => true) (fun u => PyData.bool (decide (runF gs u = runF gs o))) (i_seq (x := .list (ws.map natsT)) (e_var rfl) (.inl rfl)).i (fun u hu => bndc_name (by simp) ⟨t_yes, fun _ => e_call ((⟨webD m gs, takD (runF gs o), m, gs, runF gs o⟩ : HeldI), u) (s_cons (e_var rfl) (s_cons (e_var rfl) (e_var rfl).one)) ⟨hH2, nd, hws u hu⟩ fun r e => e.trans (by show PyData.bool (aloB ⟨m, gs, runF gs o, u⟩) = _; rw [L.alo ho (hws u hu)])⟩) (by omega)
      rw [List.filter_eq_self.mpr fun _ _ => rfl] at this
      exact this.e
    · have := f_lc (ρ := [(none : Option Sl), some (.o (tin a (B + 1))), some (.d (webD m gs)), some (.d (natD gs.length)), some (.d (natD y)), some (.d (natsT o)), some (.d (takD (runF gs o))), some (.d (natsT o')), some (.d (natsT o2)), some (.d (.list (ws.map natsT))), s10, s11, s12, s13]) (wi := iSeq K (tVar 9)) (g := gName 13) (vs := [13]) (tt := tYes) (te := tOp (rEqD K) (tCall sp_run [] E0 (tCons (tVar 2) (tCons (tVar 13) tNil))) (tVar 6))
        ws natsT (fun _ => true) (fun u => PyData.bool (decide (runF gs u = runF gs o))) (i_seq (x := .list (ws.map natsT)) (e_var rfl) (.inl rfl)).i (fun u hu => bndc_name (by simp) ⟨t_yes, fun _ => e_op (e_run (m := m) (gs := gs) (o := u) (e_var rfl) (e_var rfl) (hws u hu) hf2).b (e_var (x := takD (runF gs o)) rfl).b o_eqTk⟩) (by omega)
      rw [List.filter_eq_self.mpr fun _ _ => rfl] at this
      exact this.e
    refine r_if (t_test (e_op (e_var (x := natD gs.length) rfl).b (e_int (i := 0)).b o_gt)) (fun e => ?_) fun e => r_weak (i := 1) (c := B) rfl (by omega) (r_next ⟨_, rfl, rfl⟩)
    have hpos : 1 ≤ gs.length := by
      have := of_decide_eq_true e
      omega
    refine r_seq (r_asgZ (z_take (j := 1) (b := B) (n := gs.length) rfl (e_var rfl) hpos (by omega) fun k hk => ?_))
    refine r_seq (r_asgP ((p_call (⟨m, gs, runF gs o, k⟩ : AhI) (s_cons (e_var rfl) (s_cons (e_var rfl) (e_var rfl).one)) ⟨L.V, hk⟩).imp fun r hr => ?_))
    obtain ⟨zs, hz, rfl⟩ := hr
    have hz : AncL gs (runF gs o) k zs := hz
    have hzl := hz.len
    have hlt := L.later ho hz
    have hlc := f_lc (ρ := [(none : Option Sl), some (.o (tin a B)), some (.d (webD m gs)), some (.d (natD gs.length)), some (.d (natD y)), some (.d (natsT o)), some (.d (takD (runF gs o))), some (.d (natsT o')), some (.d (natsT o2)), some (.d (.list (ws.map natsT))), some (.d (natD k)), some (.d (natsT zs)), s12, s13]) (wi := iSeq K (tVar 11)) (g := gName 13) (vs := [13]) (tt := tTest (tOp rGtI (tIdx (tVar 5) (tVar 13)) (tIdx (tVar 5) (tVar 10)))) (te := tVar 13)
      zs natD (fun z => decide (o.idxOf k < o.idxOf z)) natD (i_seq (x := natsT zs) (e_var rfl) (.inr rfl)).i (fun z hzm => bndc_name (by simp) ⟨(t_test (e_op (e_idx (l := o) (k := z) (e_var rfl) (e_var rfl) (ho.mem.mpr (by have := ((hz.2 z).mp hzm).lt; omega))).b (e_idx (l := o) (k := k) (e_var rfl) (e_var rfl) (ho.mem.mpr hk)).b o_gt)).is (decide_eq_decide.mpr (by omega)), fun _ => e_var rfl⟩) (by omega)
    rw [hlt] at hlc
    refine r_seq (r_asg (x := natsL []) hlc.e ?_)
    refine r_if (b := false) (t_or (a := false) (b := false) (t_not (a := true) (t_B (e_same1 (x := natsT zs) (e_behind (⟨webD m gs, .list ((runF gs o).map tD), natD k, m, gs, runF gs o⟩ : BwI) (k := k) (zs := zs) (s_cons (e_var rfl) (s_cons ((e_call (takD (runF gs o)) (e_var rfl).one (tak_dep 2 (by omega)).1 fun r e => e).to (tak_lst _ 2)) (e_var rfl).one)) ?_ ?_ rfl hz) (e_var rfl) (dep_nats zs (by omega))))) fun _ => (t_test (e_op (e_var (x := natsL []) rfl).b (EvE.b (d := natsL []) (e_lst s_nil (by decide))) o_neL))) (fun e => by cases e) fun _ => r_next ⟨_, rfl, rfl⟩
    · exact ⟨held_ok (isWeb_self W) W (tak_dep 2 (by omega)).2 (tak_tup _ 2).2 (tak_of_valid L.V.V hf2), rfl⟩
    · show (match kdT (runF gs o) with | .fine => (match kdG gs.length (natD k) with | .fine => if outB gs (runF gs o) = true then Kd.fine else .cannot | q => q) | q => q) = .fine
      rw [show kdT (runF gs o) = .fine from if_pos nd, show kdG gs.length (natD k) = .fine from if_pos (by unfold withinB; simp; omega)]
      show (if outB gs (runF gs o) = true then Kd.fine else .cannot) = .fine
      rw [if_pos L.out]
  · rintro ρ1 ⟨rest, rfl, hr⟩
    exact r_ret e_bl rfl
def sp_law (K : PySem.W.Frag) : Sp := fun vs H Q _ => ∃ (a : Addr) (l : List Int), vs = [.ref a] ∧ SqL K H a (l.map V.int) ∧ l.length ≤ 63 ∧ ∀ H', Q (.bl true) H'
abbrev rl0 : Rho := [none, none, none, none, none, none, none, none, none, none, none, none, none, none]
theorem rl0_at {i : Nat} {s : Sl} (h : rl0[i]? = some (some s)) : False := by
  have : (List.replicate 14 (none : Option Sl))[i]? = some (some s) := h
  rw [List.getElem?_replicate] at this
  split at this
  · cases this
  · cases this
theorem run_lawK {a : Addr} {l : List Int} {H : Hp} (h : l.length ≤ 63) (hS : SqL K H a (l.map V.int)) (D : Ends) (q : ∀ H', D.rt (.bl true) H') :
    t_law K sp_by_hand sp_box (sp_cellsK K) sp_busy sp_walk sp_run sp_order_of (sp_lists 3) (sp_same 1) sp_is_outcome sp_is_walk sp_lalong sp_is_order_of sp_take sp_ahead (sp_behind Cu Cc Cn) D (start N_law [.ref a]) H := by
  obtain ⟨u, eu, hu⟩ := law_rest (K := K) (Cu := Cu) (Cc := Cc) (Cn := Cn)
  rw [eu]
  have k : Ok (start N_law [.ref a]) H (fun _ => Option.none) rl0 := ⟨fun _ _ e => (by cases e), rfl, fun i s hi => (rl0_at hi).elim, fun i j w1 w2 b e1 _ _ _ => (rl0_at e1).elim⟩
  have hv : (start N_law [.ref a])[0]? = some (some (.ref a)) := rfl
  have ht : EvT (tNot (tB (tCall sp_by_hand [] E0 tNil))) rl0 false := t_not (a := true) (t_B (e_call (z := .bool true) () s_nil trivial fun r e => e))
  obtain ⟨B, eB⟩ : ∃ B : TS, B = tSeq (tAsg (tCall sp_box [] E0 (tCons (tCall (sp_cellsK K) [] E0 (tCons (tVar 0) (tCons (tC (.int 1)) tNil))) (tCons (tC (.int 0)) tNil))) (gName 1)) u := ⟨_, rfl⟩
  rw [← eB]
  show tNot (tB (tCall sp_by_hand [] E0 tNil)) (start N_law [.ref a]) H fun b H1 => if b = true then tRet (tC (.bl false)) { D with nx := B D } (start N_law [.ref a]) H1 else tNext { D with nx := B D } (start N_law [.ref a]) H1
  refine ht (start N_law [.ref a]) H _ k _ fun H1 G1 x1 => ?_
  show B D (start N_law [.ref a]) H1
  subst eB
  have k1 := k.px x1
  have hS1 := sqL_same x1.h hS
  have hc : EvP (tCall (sp_cellsK K) [] E0 (tCons (atE (start N_law [.ref a]) H1 (tVar 0)) (tCons (tC (.int 1)) tNil))) rl0 fun r => ∃ c : Int, r = .list [.int c] := fun σ H2 G2 k2 Q q2 => fun ⟨e1, e2⟩ => by
    subst e1
    subst e2
    exact ⟨_, hv, G2, a, l, k2.sub, rfl, hS1, h, fun v r H' G' x r2 hr => q2 v r H' G' x r2 hr⟩
  have hb : EvF (tCall sp_box [] E0 (tCons (tCall (sp_cellsK K) [] E0 (tCons (atE (start N_law [.ref a]) H1 (tVar 0)) (tCons (tC (.int 1)) tNil))) (tCons (tC (.int 0)) tNil))) rl0 (tinU 1000000) :=
    f_callP hc (e_int (i := 0)) fun x ⟨c, e⟩ => ⟨c, by subst e; rfl, trivial, rfl⟩
  refine hb (start N_law [.ref a]) H1 G1 k1 _ (fun p o H2 G2 x2 n2 o2 g2 w2 => ?_) ⟨rfl, rfl⟩
  obtain ⟨k3, _⟩ := asg_at (i := 1) k1 (Nat.le_of_ble_eq_true rfl) x2 n2 o2 g2 w2
  exact hu _ H2 G2 k3 D (fun _ _ _ _ _ _ z => z.elim) (fun v d σ' ρ' H' G' _ _ r e => by subst e; cases r; exact q H') (fun _ _ _ _ _ _ z => z.elim) fun _ _ _ _ _ _ z => z.elim
theorem ok_law (T : Tx K mg) (S : Exs P K mg Cu Cc Cn fI cc cda) : FnOk P w K mg base CX0 10 T.law.f T.law.fd P_law (sp_law K) :=
  T.law.F.ok (k := 9) sc_law (fun vs H Q E ⟨a, l, e, _⟩ => by rw [e]; rfl) fun cdv A outer s H vs Q E hr h => ⟨_, dv_law T (ok_by_hand T S) ((ok_box T).mono (by decide)) ((ok_cellsK T).mono (by decide)) ((ok_busy T).mono (by decide)) ((ok_walk T).mono (by decide)) ((ok_run T).mono (by decide)) ((ok_order_of T S).mono (by decide)) ((ok_lists T 3).mono (by decide)) ((ok_same T 1).mono (by decide)) ((ok_is_outcome T S).mono (by decide)) ((ok_is_walk T).mono (by decide)) ((ok_lalong T).mono (by decide)) ((ok_is_order_of T S).mono (by decide)) ((ok_take T).mono (by decide)) ((ok_ahead T).mono (by decide)) ((ok_behind T S).mono (by decide)) hr, by
    obtain ⟨a, l, e, hS, hl, q⟩ := h
    subst e
    exact run_lawK hl hS { nx := fun _ H' => Q .non H', rt := Q } q⟩
end
end Lw
set_option Elab.async false
set_option linter.all false
set_option maxRecDepth 100000
set_option maxHeartbeats 4000000
namespace Lw
open PySem PySem.Spec PyProof.Rows L2
/-! ### what the top has left -/
/-- where a def stands, in the written part alone -/
def DfIs (K : PySem.W.Frag) (x : Str) (st : Stmt) : Prop := ∃ (f : Addr) (oc : Value) (od an : Option Addr) (osl : Array (Option Value)) (kV doc pm cdv ct : Value),
  PySem.W.nsIn K mainGlobals x = some (some (.ref f)) ∧ K.lookup f = some ⟨oc, od, .func (PySem.W.fnOf x x (defArgs st) (defBody st) (defScope st) .none kV doc pm an cdv ct), osl⟩ ∧ PySem.W.codeIn K cdv x = true ∧ PySem.W.keepIn K (.ref f) = true
theorem df_is {K : PySem.W.Frag} {x : Str} {st : Stmt} {f : Addr} {oc : Value} {od an : Option Addr} {osl : Array (Option Value)} {kV doc pm cdv ct : Value} (a : PySem.W.nsIn K mainGlobals x = some (some (.ref f)))
    (l : K.lookup f = some ⟨oc, od, .func (PySem.W.fnOf x x (defArgs st) (defBody st) (defScope st) .none kV doc pm an cdv ct), osl⟩) (c : PySem.W.codeIn K cdv x = true) (k : PySem.W.keepIn K (.ref f) = true) : DfIs K x st := ⟨f, oc, od, an, osl, kV, doc, pm, cdv, ct, a, l, c, k⟩
theorem df_of {K : PySem.W.Frag} {h : Heap} {mg : Str → Option Value} {x : Str} {st : Stmt} {ps : List Str} (X : K.In h) (G : h.Ns mainGlobals mg) (d : DfIs K x st)
    (hb : ∀ (kV doc pm : Value) (an : Option Addr) (cdv ct : Value) (us : List Value), us.length = ps.length → bindArgs (PySem.W.fnOf x x (defArgs st) (defBody st) (defScope st) .none kV doc pm an cdv ct) ⟨us, []⟩ = pure (ps.zip us)) : Nonempty (Df K mg x st ps) := by
  obtain ⟨f, oc, od, an, osl, kV, doc, pm, cdv, ct, a, l, c, k⟩ := d
  have F := fun_mk (st := st) l c k
  exact ⟨⟨f, _, F, PySem.W.mg_of X G a, F.binds hb⟩⟩
/-- an own exception over ValueError, as the written part has it -/
structure VeIs (K : PySem.W.Frag) (x : Str) (C : Addr) : Prop where
  a : PySem.W.nsIn K mainGlobals x = some (some (.ref C))
  x : PySem.W.excIn K C veT "ValueError.__new__" = true
  k : PySem.W.keepIn K (.ref C) = true
  t : PySem.W.typeIn K (.ref C) = some (.type "type")
  v : PySem.W.kitOne K (.ref C) (.type "ValueError") = some true
structure NgIs (K : PySem.W.Frag) (C fI cc cda : Addr) : Prop where
  a : PySem.W.nsIn K mainGlobals "NoGuest" = some (some (.ref C))
  cls : ∃ nm q N bs sn sub ab col dd k0 k1 k2 k3 k5, K.lookup C = some (excClassObj nm q C N bs PySem.NgX.leTail true sn sub ab col dd k0 k1 k2 k3 k5 "LookupError.__new__")
  sa : PySem.W.findIn K (.ref C) "__setattr__" = some (some (.builtin "object.__setattr__"))
  noN : PySem.W.findIn K (.ref C) "guest" = some none
  iC : PySem.W.findIn K (.ref C) "__init__" = some (some (.ref fI))
  tC : PySem.W.typeIn K (.ref fI) = some (.type "function")
  kC : PySem.W.keepIn K (.ref C) = true
  leC : PySem.W.subIn K (.ref C) (.type "LookupError") = some true
  mC : PySem.W.mroIn K C (.ref C) = some true
  tyC : PySem.W.typeIn K (.ref C) = some (.type "type")
  op : PySem.W.nsIn K cStatics "thirdparty.any" = some none
  sup : PySem.W.nsIn K mainGlobals "super" = some none
  vN : PySem.W.kitOne K (.ref C) (.type "LookupError") = some true
  fn : ∃ (oc : Value) (od : Option Addr) (doc pm : Value) (an : Option Addr) (ct : Value) (osl : Array (Option Value)),
    K.lookup fI = some ⟨oc, od, .func (PySem.W.ksFn "__init__" "NoGuest.__init__" PySem.NgX.nA PySem.NgX.nB PySem.NgX.nS .none .none doc pm an (.ref cda) ct cc), osl⟩
  co : PySem.W.codeIn K (.ref cda) "NoGuest.__init__" = true
  cell : ∃ (cl : Value) (cld : Option Addr) (csl : Array (Option Value)), K.lookup cc = some ⟨cl, cld, .cell (some (.ref C)), csl⟩
def CdIs (P : Program) (K : PySem.W.Frag) (cda : Addr) : Prop := ∃ (ccl : Value) (cdd : Option Addr) (vs : Array Value) (ccs : Array (Option Value)) (file : Str) (tf : Tok), K.lookup cda = some ⟨ccl, cdd, .fields vs, ccs⟩ ∧ vs[2]? = some (.str file tf) ∧ ((P.main.file : Str) == file) = true

theorem all_mk {P : Program} {w : World} {K : PySem.W.Frag} {h : Heap} {mg : Str → Option Value} {fa Cu Cc Cn fI cc cda : Addr} (X : K.In h) (G : h.Ns mainGlobals mg) (hfa : mg "law" = some (.ref fa)) (top : (P.main.scope.names.lookup ("super" : Str)).isSome = false)
    (d0 : DfIs K "is_number" s_is_number)
    (d1 : DfIs K "is_from" s_is_from)
    (d2 : DfIs K "is_within" s_is_within)
    (d3 : DfIs K "is_long" s_is_long)
    (d4 : DfIs K "tupled" s_tupled)
    (d5 : DfIs K "set_of" s_set_of)
    (d6 : DfIs K "is_guest_of" s_is_guest_of)
    (d7 : DfIs K "is_web" s_is_web)
    (d8 : DfIs K "sure_web" s_sure_web)
    (d9 : DfIs K "sure_guest" s_sure_guest)
    (d10 : DfIs K "is_row_in" s_is_row_in)
    (d11 : DfIs K "is_order_in" s_is_order_in)
    (d12 : DfIs K "is_taking_in" s_is_taking_in)
    (d13 : DfIs K "sure_taking" s_sure_taking)
    (d14 : DfIs K "sure_held" s_sure_held)
    (d15 : DfIs K "holders_in" s_holders_in)
    (d16 : DfIs K "asked_in" s_asked_in)
    (d17 : DfIs K "arrows_in" s_arrows_in)
    (d18 : DfIs K "lacking_in" s_lacking_in)
    (d19 : DfIs K "order_in" s_order_in)
    (d20 : DfIs K "is_outcome_in" s_is_outcome_in)
    (d21 : DfIs K "is_along" s_is_along)
    (d22 : DfIs K "is_outcome" s_is_outcome)
    (d23 : DfIs K "order_of" s_order_of)
    (d24 : DfIs K "is_order_of" s_is_order_of)
    (d25 : DfIs K "behind_whom" s_behind_whom)
    (d26 : DfIs K "_law_box" s_l_box)
    (d27 : DfIs K "_law_take" s_l_take)
    (d28 : DfIs K "_law_cells" s_l_cells)
    (d29 : DfIs K "_law_of" s_l_of)
    (d30 : DfIs K "_law_pick" s_l_pick)
    (d31 : DfIs K "_law_lists" s_l_lists)
    (d32 : DfIs K "_law_same" s_l_same)
    (d33 : DfIs K "_law_seat" s_l_seat)
    (d34 : DfIs K "_law_run" s_l_run)
    (d35 : DfIs K "_law_arrows" s_l_arrows)
    (d36 : DfIs K "_law_net" s_l_net)
    (d37 : DfIs K "_law_walk" s_l_walk)
    (d38 : DfIs K "_law_ahead_of" s_l_ahead_of)
    (d39 : DfIs K "_law_is_walk_of" s_l_is_walk_of)
    (d40 : DfIs K "_law_along" s_l_along)
    (d41 : DfIs K "_law_busy_net" s_l_busy_net)
    (d42 : DfIs K "_law_reply" s_l_reply)
    (d43 : DfIs K "_law_by_hand_right" s_l_by_hand_right)
    (d44 : DfIs K "law" s_law)
    (z0 : PySem.W.nsIn K mainGlobals "int" = some none)
    (z1 : PySem.W.nsIn K mainGlobals "isinstance" = some none)
    (z2 : PySem.W.nsIn K mainGlobals "bool" = some none)
    (z3 : PySem.W.nsIn K mainGlobals "tuple" = some none)
    (z4 : PySem.W.nsIn K mainGlobals "len" = some none)
    (z5 : PySem.W.nsIn K mainGlobals "list" = some none)
    (z6 : PySem.W.nsIn K mainGlobals "sorted" = some none)
    (z7 : PySem.W.nsIn K mainGlobals "set" = some none)
    (z8 : PySem.W.nsIn K mainGlobals "all" = some none)
    (z9 : PySem.W.nsIn K mainGlobals "zip" = some none)
    (z10 : PySem.W.nsIn K mainGlobals "enumerate" = some none)
    (z11 : PySem.W.nsIn K mainGlobals "range" = some none)
    (z12 : PySem.W.nsIn K mainGlobals "any" = some none)
    (z13 : PySem.W.nsIn K mainGlobals "abs" = some none)
    (z14 : PySem.W.nsIn K mainGlobals "min" = some none)
    (z15 : PySem.W.nsIn K mainGlobals "str" = some none)
    (z16 : PySem.W.nsIn K mainGlobals "max" = some none)
    (z17 : PySem.W.nsIn K mainGlobals "ValueError" = some none)
    (z18 : PySem.W.nsIn K mainGlobals "LookupError" = some none)
    (u : VeIs K "Unfit" Cu) (c : VeIs K "CanNot" Cc) (g : NgIs K Cn fI cc cda) (cd : CdIs P K cda) (iU : ExcC K Cu) (iC : ExcC K Cc) (iN : ExcC K Cn)
    (eCC : PySem.W.exmOne K (.ref Cc) (.ref Cc) = some true) (eNC : PySem.W.exmOne K (.ref Cn) (.ref Cc) = some false) (eNN : PySem.W.exmOne K (.ref Cn) (.ref Cn) = some true)
    (eUC : PySem.W.exmOne K (.ref Cu) (.ref Cc) = some false) (eUN : PySem.W.exmOne K (.ref Cu) (.ref Cn) = some false) (eUU : PySem.W.exmOne K (.ref Cu) (.ref Cu) = some true) :
    ∃ fd : FuncData, (∀ (s : Shared) (v : Value), BindsTo s fd ⟨[v], []⟩ [("_law_script", v)]) ∧ ∀ base : Heap, K.In base → base.Ns mainGlobals mg → FnOk P w K mg base CX0 10 fa fd ["_law_script"] (sp_law K) := by
  obtain ⟨D0⟩ := df_of (ps := P_is_number) X G d0 fun _ _ _ _ _ _ us hl => match us, hl with | [_], _ => rfl
  obtain ⟨D1⟩ := df_of (ps := P_is_from) X G d1 fun _ _ _ _ _ _ us hl => match us, hl with | [_, _], _ => rfl
  obtain ⟨D2⟩ := df_of (ps := P_is_within) X G d2 fun _ _ _ _ _ _ us hl => match us, hl with | [_, _, _], _ => rfl
  obtain ⟨D3⟩ := df_of (ps := P_is_long) X G d3 fun _ _ _ _ _ _ us hl => match us, hl with | [_, _], _ => rfl
  obtain ⟨D4⟩ := df_of (ps := P_tupled) X G d4 fun _ _ _ _ _ _ us hl => match us, hl with | [_], _ => rfl
  obtain ⟨D5⟩ := df_of (ps := P_set_of) X G d5 fun _ _ _ _ _ _ us hl => match us, hl with | [_], _ => rfl
  obtain ⟨D6⟩ := df_of (ps := P_is_guest_of) X G d6 fun _ _ _ _ _ _ us hl => match us, hl with | [_, _], _ => rfl
  obtain ⟨D7⟩ := df_of (ps := P_is_web) X G d7 fun _ _ _ _ _ _ us hl => match us, hl with | [_], _ => rfl
  obtain ⟨D8⟩ := df_of (ps := P_sure_web) X G d8 fun _ _ _ _ _ _ us hl => match us, hl with | [_], _ => rfl
  obtain ⟨D9⟩ := df_of (ps := P_sure_guest) X G d9 fun _ _ _ _ _ _ us hl => match us, hl with | [_, _], _ => rfl
  obtain ⟨D10⟩ := df_of (ps := P_is_row_in) X G d10 fun _ _ _ _ _ _ us hl => match us, hl with | [_, _], _ => rfl
  obtain ⟨D11⟩ := df_of (ps := P_is_order_in) X G d11 fun _ _ _ _ _ _ us hl => match us, hl with | [_, _], _ => rfl
  obtain ⟨D12⟩ := df_of (ps := P_is_taking_in) X G d12 fun _ _ _ _ _ _ us hl => match us, hl with | [_, _], _ => rfl
  obtain ⟨D13⟩ := df_of (ps := P_sure_taking) X G d13 fun _ _ _ _ _ _ us hl => match us, hl with | [_, _], _ => rfl
  obtain ⟨D14⟩ := df_of (ps := P_sure_held) X G d14 fun _ _ _ _ _ _ us hl => match us, hl with | [_, _], _ => rfl
  obtain ⟨D15⟩ := df_of (ps := P_holders_in) X G d15 fun _ _ _ _ _ _ us hl => match us, hl with | [_], _ => rfl
  obtain ⟨D16⟩ := df_of (ps := P_asked_in) X G d16 fun _ _ _ _ _ _ us hl => match us, hl with | [_, _, _], _ => rfl
  obtain ⟨D17⟩ := df_of (ps := P_arrows_in) X G d17 fun _ _ _ _ _ _ us hl => match us, hl with | [_, _], _ => rfl
  obtain ⟨D18⟩ := df_of (ps := P_lacking_in) X G d18 fun _ _ _ _ _ _ us hl => match us, hl with | [_, _], _ => rfl
  obtain ⟨D19⟩ := df_of (ps := P_order_in) X G d19 fun _ _ _ _ _ _ us hl => match us, hl with | [_, _], _ => rfl
  obtain ⟨D20⟩ := df_of (ps := P_is_outcome_in) X G d20 fun _ _ _ _ _ _ us hl => match us, hl with | [_, _], _ => rfl
  obtain ⟨D21⟩ := df_of (ps := P_is_along) X G d21 fun _ _ _ _ _ _ us hl => match us, hl with | [_, _, _], _ => rfl
  obtain ⟨D22⟩ := df_of (ps := P_is_outcome) X G d22 fun _ _ _ _ _ _ us hl => match us, hl with | [_, _], _ => rfl
  obtain ⟨D23⟩ := df_of (ps := P_order_of) X G d23 fun _ _ _ _ _ _ us hl => match us, hl with | [_, _], _ => rfl
  obtain ⟨D24⟩ := df_of (ps := P_is_order_of) X G d24 fun _ _ _ _ _ _ us hl => match us, hl with | [_, _, _], _ => rfl
  obtain ⟨D25⟩ := df_of (ps := P_behind_whom) X G d25 fun _ _ _ _ _ _ us hl => match us, hl with | [_, _, _], _ => rfl
  obtain ⟨D26⟩ := df_of (ps := P_l_box) X G d26 fun _ _ _ _ _ _ us hl => match us, hl with | [_, _], _ => rfl
  obtain ⟨D27⟩ := df_of (ps := P_l_take) X G d27 fun _ _ _ _ _ _ us hl => match us, hl with | [_, _], _ => rfl
  obtain ⟨D28⟩ := df_of (ps := P_l_cells) X G d28 fun _ _ _ _ _ _ us hl => match us, hl with | [_, _], _ => rfl
  obtain ⟨D29⟩ := df_of (ps := P_l_of) X G d29 fun _ _ _ _ _ _ us hl => match us, hl with | [_, _], _ => rfl
  obtain ⟨D30⟩ := df_of (ps := P_l_pick) X G d30 fun _ _ _ _ _ _ us hl => match us, hl with | [_, _, _], _ => rfl
  obtain ⟨D31⟩ := df_of (ps := P_l_lists) X G d31 fun _ _ _ _ _ _ us hl => match us, hl with | [_], _ => rfl
  obtain ⟨D32⟩ := df_of (ps := P_l_same) X G d32 fun _ _ _ _ _ _ us hl => match us, hl with | [_, _], _ => rfl
  obtain ⟨D33⟩ := df_of (ps := P_l_seat) X G d33 fun _ _ _ _ _ _ us hl => match us, hl with | [_, _, _], _ => rfl
  obtain ⟨D34⟩ := df_of (ps := P_l_run) X G d34 fun _ _ _ _ _ _ us hl => match us, hl with | [_, _], _ => rfl
  obtain ⟨D35⟩ := df_of (ps := P_l_arrows) X G d35 fun _ _ _ _ _ _ us hl => match us, hl with | [_, _], _ => rfl
  obtain ⟨D36⟩ := df_of (ps := P_l_net) X G d36 fun _ _ _ _ _ _ us hl => match us, hl with | [_, _, _], _ => rfl
  obtain ⟨D37⟩ := df_of (ps := P_l_walk) X G d37 fun _ _ _ _ _ _ us hl => match us, hl with | [_, _], _ => rfl
  obtain ⟨D38⟩ := df_of (ps := P_l_ahead_of) X G d38 fun _ _ _ _ _ _ us hl => match us, hl with | [_, _, _], _ => rfl
  obtain ⟨D39⟩ := df_of (ps := P_l_is_walk_of) X G d39 fun _ _ _ _ _ _ us hl => match us, hl with | [_, _], _ => rfl
  obtain ⟨D40⟩ := df_of (ps := P_l_along) X G d40 fun _ _ _ _ _ _ us hl => match us, hl with | [_, _, _], _ => rfl
  obtain ⟨D41⟩ := df_of (ps := P_l_busy_net) X G d41 fun _ _ _ _ _ _ us hl => match us, hl with | [_, _, _], _ => rfl
  obtain ⟨D42⟩ := df_of (ps := P_l_reply) X G d42 fun _ _ _ _ _ _ us hl => match us, hl with | [_, _, _], _ => rfl
  obtain ⟨D43⟩ := df_of (ps := P_l_by_hand_right) X G d43 fun _ _ _ _ _ _ us hl => match us, hl with | [], _ => rfl
  obtain ⟨D44⟩ := df_of (ps := P_law) X G d44 fun _ _ _ _ _ _ us hl => match us, hl with | [_], _ => rfl
  have A : Ax mg := { n_int := PySem.W.mg_none_of X G z0, n_isinstance := PySem.W.mg_none_of X G z1, n_bool := PySem.W.mg_none_of X G z2, n_tuple := PySem.W.mg_none_of X G z3, n_len := PySem.W.mg_none_of X G z4, n_list := PySem.W.mg_none_of X G z5, n_sorted := PySem.W.mg_none_of X G z6, n_set := PySem.W.mg_none_of X G z7, n_all := PySem.W.mg_none_of X G z8, n_zip := PySem.W.mg_none_of X G z9, n_enumerate := PySem.W.mg_none_of X G z10, n_range := PySem.W.mg_none_of X G z11, n_any := PySem.W.mg_none_of X G z12, n_abs := PySem.W.mg_none_of X G z13, n_min := PySem.W.mg_none_of X G z14, n_str := PySem.W.mg_none_of X G z15, n_max := PySem.W.mg_none_of X G z16, n_ValueError := PySem.W.mg_none_of X G z17, n_LookupError := PySem.W.mg_none_of X G z18 }
  have T : Tx K mg := { A := A, is_number := D0, is_from := D1, is_within := D2, is_long := D3, tupled := D4, set_of := D5, is_guest_of := D6, is_web := D7, sure_web := D8, sure_guest := D9, is_row_in := D10, is_order_in := D11, is_taking_in := D12, sure_taking := D13, sure_held := D14, holders_in := D15, asked_in := D16, arrows_in := D17, lacking_in := D18, order_in := D19, is_outcome_in := D20, is_along := D21, is_outcome := D22, order_of := D23, is_order_of := D24, behind_whom := D25, l_box := D26, l_take := D27, l_cells := D28, l_of := D29, l_pick := D30, l_lists := D31, l_same := D32, l_seat := D33, l_run := D34, l_arrows := D35, l_net := D36, l_walk := D37, l_ahead_of := D38, l_is_walk_of := D39, l_along := D40, l_busy_net := D41, l_reply := D42, l_by_hand_right := D43, law := D44 }
  have S : Exs P K mg Cu Cc Cn fI cc cda :=
    { ng := { gC := PySem.W.mg_of X G g.a, cls := g.cls, sa := g.sa, ga := iN.hg, gg := iN.hk, noN := g.noN, iC := g.iC, tC := g.tC, kC := g.kC, exC := iN.hs, leC := g.leC, mC := g.mC, tyC := g.tyC, hdC := iN.hd, op := g.op, sup := PySem.W.mg_none_of X G g.sup, fn := (let ⟨oc, od, doc, pm, an, ct, osl, e⟩ := g.fn; ⟨oc, od, doc, pm, an, ct, osl, e, g.co⟩), code := cd, cell := g.cell, top := top }, xU := u.x, gU := PySem.W.mg_of X G u.a, kU := u.k, bU := iU.hs, tU := u.t, xC := c.x, gC := PySem.W.mg_of X G c.a, kC := c.k, bC := iC.hs, tC := c.t, iU := iU, iC := iC, iN := iN, eCC := eCC, eNC := eNC, eNN := eNN, eUC := eUC, eUN := eUN, eUU := eUU, vC := c.v, vU := u.v, vN := g.vN }
  have e := hfa.symm.trans T.law.g
  cases e
  have F := T.law.F
  refine ⟨T.law.fd, fun s v => ?_, fun base _ _ => ok_law T S⟩
  obtain ⟨oc, od, kV, doc, pm, an, cdv, ct, osl, ef, lk, hcd⟩ := F.ex
  rw [ef]
  exact .of_eq rfl
end Lw
open PySem PySem.W PyProof.Rows
set_option maxRecDepth 100000 in
set_option maxHeartbeats 0 in
theorem PySem.Challenge.cw_leftwithout_k21_whole_orders_for_outcome_holds : PySem.Challenge.rw_leftwithout_k21_whole_orders_for_outcome.Holds := by
  w_on; o_law; k_head; (case hw => w_witness2)
  k_fill
  refine L2.walk_of (l := PySem.Challenge.rw_leftwithout_k21_whole_orders_for_outcome) (n := 63) (k := 10) (x := "_law_script") (CX := fun _ => L2.CX0) (sp := fun w => Lw.sp_law _) rfl (by decide) rfl ⟨rfl, by decide, by decide⟩ (fun w h Y => PySem.W.kIn_of Y) ?F (fun _ _ a ns hl _ hS => ⟨a, ns, rfl, hS, hl, fun _ => rfl⟩) (fun _ _ _ _ _ h => h)
  case F =>
    intro w mg fa h KX G hmg
    refine' Lw.all_mk KX G hmg ?top (Lw.df_is ?a0 ?l0 ?c0 ?k0) (Lw.df_is ?a1 ?l1 ?c1 ?k1) (Lw.df_is ?a2 ?l2 ?c2 ?k2) (Lw.df_is ?a3 ?l3 ?c3 ?k3) (Lw.df_is ?a4 ?l4 ?c4 ?k4) (Lw.df_is ?a5 ?l5 ?c5 ?k5) (Lw.df_is ?a6 ?l6 ?c6 ?k6) (Lw.df_is ?a7 ?l7 ?c7 ?k7) (Lw.df_is ?a8 ?l8 ?c8 ?k8) (Lw.df_is ?a9 ?l9 ?c9 ?k9) (Lw.df_is ?a10 ?l10 ?c10 ?k10) (Lw.df_is ?a11 ?l11 ?c11 ?k11) (Lw.df_is ?a12 ?l12 ?c12 ?k12) (Lw.df_is ?a13 ?l13 ?c13 ?k13) (Lw.df_is ?a14 ?l14 ?c14 ?k14) (Lw.df_is ?a15 ?l15 ?c15 ?k15) (Lw.df_is ?a16 ?l16 ?c16 ?k16) (Lw.df_is ?a17 ?l17 ?c17 ?k17) (Lw.df_is ?a18 ?l18 ?c18 ?k18) (Lw.df_is ?a19 ?l19 ?c19 ?k19) (Lw.df_is ?a20 ?l20 ?c20 ?k20) (Lw.df_is ?a21 ?l21 ?c21 ?k21) (Lw.df_is ?a22 ?l22 ?c22 ?k22) (Lw.df_is ?a23 ?l23 ?c23 ?k23) (Lw.df_is ?a24 ?l24 ?c24 ?k24) (Lw.df_is ?a25 ?l25 ?c25 ?k25) (Lw.df_is ?a26 ?l26 ?c26 ?k26) (Lw.df_is ?a27 ?l27 ?c27 ?k27) (Lw.df_is ?a28 ?l28 ?c28 ?k28) (Lw.df_is ?a29 ?l29 ?c29 ?k29) (Lw.df_is ?a30 ?l30 ?c30 ?k30) (Lw.df_is ?a31 ?l31 ?c31 ?k31) (Lw.df_is ?a32 ?l32 ?c32 ?k32) (Lw.df_is ?a33 ?l33 ?c33 ?k33) (Lw.df_is ?a34 ?l34 ?c34 ?k34) (Lw.df_is ?a35 ?l35 ?c35 ?k35) (Lw.df_is ?a36 ?l36 ?c36 ?k36) (Lw.df_is ?a37 ?l37 ?c37 ?k37) (Lw.df_is ?a38 ?l38 ?c38 ?k38) (Lw.df_is ?a39 ?l39 ?c39 ?k39) (Lw.df_is ?a40 ?l40 ?c40 ?k40) (Lw.df_is ?a41 ?l41 ?c41 ?k41) (Lw.df_is ?a42 ?l42 ?c42 ?k42) (Lw.df_is ?a43 ?l43 ?c43 ?k43) (Lw.df_is ?a44 ?l44 ?c44 ?k44) ?z0 ?z1 ?z2 ?z3 ?z4 ?z5 ?z6 ?z7 ?z8 ?z9 ?z10 ?z11 ?z12 ?z13 ?z14 ?z15 ?z16 ?z17 ?z18 ⟨?ua, ?ux, ?uk, ?ut, ?uv⟩ ⟨?ca, ?cx, ?ck, ?ct, ?cv⟩ ⟨?ga, ⟨_, _, _, _, _, _, _, _, _, _, _, _, _, _, ?gc⟩, ?gsa, ?gno, ?gi, ?gt, ?gk, ?gle, ?gm, ?gty, ?gop, ?gsup, ?gv, ⟨_, _, _, _, _, _, _, ?gf⟩, ?gco, ⟨_, _, _, ?gce⟩⟩ ⟨_, _, _, _, _, _, ?cda, ?cdv, ?cdf⟩ ⟨?iu0, ?iu1, ?iu2, ?iu3, ?iu4, ?iu5, ?iu6, ?iu7⟩ ⟨?ic0, ?ic1, ?ic2, ?ic3, ?ic4, ?ic5, ?ic6, ?ic7⟩ ⟨?ing0, ?ing1, ?ing2, ?ing3, ?ing4, ?ing5, ?ing6, ?ing7⟩ ?e1 ?e2 ?e3 ?e4 ?e5 ?e6
    (case a0 => k_is); (case l0 => k_is); (case c0 => k_is); (case k0 => k_is)
    (case a1 => k_is); (case l1 => k_is); (case c1 => k_is); (case k1 => k_is)
    (case a2 => k_is); (case l2 => k_is); (case c2 => k_is); (case k2 => k_is)
    (case a3 => k_is); (case l3 => k_is); (case c3 => k_is); (case k3 => k_is)
    (case a4 => k_is); (case l4 => k_is); (case c4 => k_is); (case k4 => k_is)
    (case a5 => k_is); (case l5 => k_is); (case c5 => k_is); (case k5 => k_is)
    (case a6 => k_is); (case l6 => k_is); (case c6 => k_is); (case k6 => k_is)
    (case a7 => k_is); (case l7 => k_is); (case c7 => k_is); (case k7 => k_is)
    (case a8 => k_is); (case l8 => k_is); (case c8 => k_is); (case k8 => k_is)
    (case a9 => k_is); (case l9 => k_is); (case c9 => k_is); (case k9 => k_is)
    (case a10 => k_is); (case l10 => k_is); (case c10 => k_is); (case k10 => k_is)
    (case a11 => k_is); (case l11 => k_is); (case c11 => k_is); (case k11 => k_is)
    (case a12 => k_is); (case l12 => k_is); (case c12 => k_is); (case k12 => k_is)
    (case a13 => k_is); (case l13 => k_is); (case c13 => k_is); (case k13 => k_is)
    (case a14 => k_is); (case l14 => k_is); (case c14 => k_is); (case k14 => k_is)
    (case a15 => k_is); (case l15 => k_is); (case c15 => k_is); (case k15 => k_is)
    (case a16 => k_is); (case l16 => k_is); (case c16 => k_is); (case k16 => k_is)
    (case a17 => k_is); (case l17 => k_is); (case c17 => k_is); (case k17 => k_is)
    (case a18 => k_is); (case l18 => k_is); (case c18 => k_is); (case k18 => k_is)
    (case a19 => k_is); (case l19 => k_is); (case c19 => k_is); (case k19 => k_is)
    (case a20 => k_is); (case l20 => k_is); (case c20 => k_is); (case k20 => k_is)
    (case a21 => k_is); (case l21 => k_is); (case c21 => k_is); (case k21 => k_is)
    (case a22 => k_is); (case l22 => k_is); (case c22 => k_is); (case k22 => k_is)
    (case a23 => k_is); (case l23 => k_is); (case c23 => k_is); (case k23 => k_is)
    (case a24 => k_is); (case l24 => k_is); (case c24 => k_is); (case k24 => k_is)
    (case a25 => k_is); (case l25 => k_is); (case c25 => k_is); (case k25 => k_is)
    (case a26 => k_is); (case l26 => k_is); (case c26 => k_is); (case k26 => k_is)
    (case a27 => k_is); (case l27 => k_is); (case c27 => k_is); (case k27 => k_is)
    (case a28 => k_is); (case l28 => k_is); (case c28 => k_is); (case k28 => k_is)
    (case a29 => k_is); (case l29 => k_is); (case c29 => k_is); (case k29 => k_is)
    (case a30 => k_is); (case l30 => k_is); (case c30 => k_is); (case k30 => k_is)
    (case a31 => k_is); (case l31 => k_is); (case c31 => k_is); (case k31 => k_is)
    (case a32 => k_is); (case l32 => k_is); (case c32 => k_is); (case k32 => k_is)
    (case a33 => k_is); (case l33 => k_is); (case c33 => k_is); (case k33 => k_is)
    (case a34 => k_is); (case l34 => k_is); (case c34 => k_is); (case k34 => k_is)
    (case a35 => k_is); (case l35 => k_is); (case c35 => k_is); (case k35 => k_is)
    (case a36 => k_is); (case l36 => k_is); (case c36 => k_is); (case k36 => k_is)
    (case a37 => k_is); (case l37 => k_is); (case c37 => k_is); (case k37 => k_is)
    (case a38 => k_is); (case l38 => k_is); (case c38 => k_is); (case k38 => k_is)
    (case a39 => k_is); (case l39 => k_is); (case c39 => k_is); (case k39 => k_is)
    (case a40 => k_is); (case l40 => k_is); (case c40 => k_is); (case k40 => k_is)
    (case a41 => k_is); (case l41 => k_is); (case c41 => k_is); (case k41 => k_is)
    (case a42 => k_is); (case l42 => k_is); (case c42 => k_is); (case k42 => k_is)
    (case a43 => k_is); (case l43 => k_is); (case c43 => k_is); (case k43 => k_is)
    (case a44 => k_is); (case l44 => k_is); (case c44 => k_is); (case k44 => k_is)
    (case z0 => k_is)
    (case z1 => k_is)
    (case z2 => k_is)
    (case z3 => k_is)
    (case z4 => k_is)
    (case z5 => k_is)
    (case z6 => k_is)
    (case z7 => k_is)
    (case z8 => k_is)
    (case z9 => k_is)
    (case z10 => k_is)
    (case z11 => k_is)
    (case z12 => k_is)
    (case z13 => k_is)
    (case z14 => k_is)
    (case z15 => k_is)
    (case z16 => k_is)
    (case z17 => k_is)
    (case z18 => k_is)
    (case ua => first | k_is | rfl | decide +kernel)
    (case ux => k_exc)
    (case uk => first | k_is | rfl | decide +kernel)
    (case ut => first | k_is | rfl | decide +kernel)
    (case uv => first | k_is | rfl | decide +kernel)
    (case ca => first | k_is | rfl | decide +kernel)
    (case cx => k_exc)
    (case ck => first | k_is | rfl | decide +kernel)
    (case ct => first | k_is | rfl | decide +kernel)
    (case cv => first | k_is | rfl | decide +kernel)
    (case ga => first | k_is | rfl | decide +kernel)
    (case gc => first | k_is | rfl | decide +kernel)
    (case gsa => first | k_is | rfl | decide +kernel)
    (case gno => first | k_is | rfl | decide +kernel)
    (case gi => first | k_is | rfl | decide +kernel)
    (case gf => first | k_is | rfl | decide +kernel)
    (case gt => first | k_is | rfl | decide +kernel)
    (case gk => first | k_is | rfl | decide +kernel)
    (case gle => first | k_is | rfl | decide +kernel)
    (case gm => first | k_is | rfl | decide +kernel)
    (case gty => first | k_is | rfl | decide +kernel)
    (case gop => first | k_is | rfl | decide +kernel)
    (case gsup => first | k_is | rfl | decide +kernel)
    (case gv => first | k_is | rfl | decide +kernel)
    (case gco => first | k_is | rfl | decide +kernel)
    (case gce => first | k_is | rfl | decide +kernel)
    (case cda => first | k_is | rfl | decide +kernel)
    (case cdv => first | k_is | rfl | decide +kernel)
    (case cdf => first | k_is | rfl | decide +kernel)
    (case iu0 => first | k_is | rfl)
    (case iu1 => first | k_is | rfl)
    (case iu2 => first | k_is | rfl)
    (case iu3 => first | k_is | rfl)
    (case iu4 => first | k_is | rfl)
    (case iu5 => first | k_is | rfl)
    (case iu6 => first | k_is | rfl)
    (case iu7 => first | k_is | rfl)
    (case ic0 => first | k_is | rfl)
    (case ic1 => first | k_is | rfl)
    (case ic2 => first | k_is | rfl)
    (case ic3 => first | k_is | rfl)
    (case ic4 => first | k_is | rfl)
    (case ic5 => first | k_is | rfl)
    (case ic6 => first | k_is | rfl)
    (case ic7 => first | k_is | rfl)
    (case ing0 => first | k_is | rfl)
    (case ing1 => first | k_is | rfl)
    (case ing2 => first | k_is | rfl)
    (case ing3 => first | k_is | rfl)
    (case ing4 => first | k_is | rfl)
    (case ing5 => first | k_is | rfl)
    (case ing6 => first | k_is | rfl)
    (case ing7 => first | k_is | rfl)
    (case e1 => first | k_is | rfl)
    (case e2 => first | k_is | rfl)
    (case e3 => first | k_is | rfl)
    (case e4 => first | k_is | rfl)
    (case e5 => first | k_is | rfl)
    (case e6 => first | k_is | rfl)
    (case top => first | rfl | decide +kernel)
